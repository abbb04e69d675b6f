import PyProof.Rows.All
import Wide.All
import OpenK.AllK
import Wide.FinOn
import HandS.ForMost
import HandS.IsInst
import HandS.Flow
import HandS.Wide
import HandS.Style
import HandS.Deep
import HandS.Conv
import HandS.TupAny
import HandS.EndBits
import KE.SortData
import KE.DataMinMax
import KE.DataCmp
import HandS.NoneIn
import HandS.TupMul
import PyProof.ListMulRoad
import PyProof.FactsAll.tuple_2
import PyProof.Rows.ListMulArg
import HandS.HotCalls
import HandS.ExcIs
import PySem.Challenge.RW_paperkeep_k57_whole_one_base_of_each_lat
set_option Elab.async false
set_option linter.all false
set_option maxRecDepth 100000
set_option maxHeartbeats 4000000
namespace L2.Pd
open PySem PySem.Spec PyProof.Rows
/-! ## Pure data over the hand layer: cells, what holds of them, the growing of the heap -/
abbrev D := PyData
/-- what a def's slot holds: nothing that is asked for; data that nobody changes; a list, a dict of the def's own; a dict of its own that is walked just now -/
inductive Cell where
  | dead
  | sh (d : D)
  | ol (ds : List D)
  | od (tk : Bool) (kvs : List (D × D))
  | fd (tk : Bool) (kvs : List (D × D))
abbrev En := List Cell
def isOwn : Cell → Bool
  | .dead => false
  | .sh _ => false
  | .fd _ _ => false
  | _ => true
def kD : Key → D
  | .inl i => .int i
  | .inr x => .str x
abbrev KvK (K : PySem.W.Frag) (F : Hp) : List (D × D) → List (Key × V) → Prop := Paired (fun p q => p.1 = kD q.1 ∧ Dp K F q.2 p.2)
abbrev KvT (K : PySem.W.Frag) (F : Hp) : List (D × D) → List (List Key × V) → Prop := Paired (fun p q => p.1 = .tuple (q.1.map kD) ∧ Dp K F q.2 p.2)
/-- a dict's object; tk: its keys are tuples -/
def DictOb (K : PySem.W.Frag) (F : Hp) (kvs : List (D × D)) : Bool → HO → Prop
  | false, .dK ws => KvK K F kvs ws
  | true, .dT ws => KvT K F kvs ws
  | _, _ => False
/-- the object of an own cell -/
def Ob (K : PySem.W.Frag) (F : Hp) : Cell → HO → Prop
  | .ol ds, .lst vs => DpAll K F vs ds
  | .od tk kvs, o => DictOb K F kvs tk o
  | _, _ => False
def CellOk (K : PySem.W.Frag) (B F H : Hp) (x : Option V) : Cell → Prop
  | .dead => True
  | .sh d => ∃ v, x = some v ∧ Dp K F v d
  | .fd tk kvs => ∃ a ob u, x = some (.ref a) ∧ F a = some (.frz ob u) ∧ DictOb K F kvs tk u
  | c => ∃ a o, x = some (.ref a) ∧ H a = some o ∧ Ob K F c o ∧ F a = none ∧ B a = none
structure Con (K : PySem.W.Frag) (B F : Hp) (io : List (Nat × Addr)) (σ : St) (H : Hp) (ρ : En) : Prop where
  len : σ.length = ρ.length
  base : Same B H
  frz : Same F H
  cell : ∀ (i : Nat) (c : Cell), ρ[i]? = some c → ∃ x, σ[i]? = some x ∧ CellOk K B F H x c
  sep : ∀ (i j : Nat) (c e : Cell) (a : Addr), ρ[i]? = some c → ρ[j]? = some e → isOwn c = true → isOwn e = true → σ[i]? = some (some (.ref a)) → σ[j]? = some (some (.ref a)) → i = j
  io : ∀ p ∈ io, σ[p.1]? = some (some (.ref p.2))
/-- the frozen heap grows by what is new -/
structure Gr (B F F' : Hp) : Prop where
  sub : Same F F'
  new : ∀ a o, F' a = some o → F a = some o ∨ B a = none
/-- both heaps grow, nothing is changed -/
structure Al (F H F' H' : Hp) : Prop where
  ff : Same F F'
  hh : Same H H'
  sub : Same F' H'
  new : ∀ a o, F' a = some o → F a = some o ∨ H a = none

theorem Gr.refl (B F : Hp) : Gr B F F := ⟨Same.refl F, fun _ _ h => .inl h⟩
theorem Gr.trans {B F F1 F2 : Hp} (a : Gr B F F1) (b : Gr B F1 F2) : Gr B F F2 := ⟨a.sub.trans b.sub, fun x o h => by
  rcases b.new x o h with q | q
  · exact a.new x o q
  · exact .inr q⟩
theorem Al.refl {F H : Hp} (h : Same F H) : Al F H F H := ⟨Same.refl F, Same.refl H, h, fun _ _ q => .inl q⟩
theorem Al.trans {F H F1 H1 F2 H2 : Hp} (a : Al F H F1 H1) (b : Al F1 H1 F2 H2) : Al F H F2 H2 := ⟨a.ff.trans b.ff, a.hh.trans b.hh, b.sub, fun x o h => by
  rcases b.new x o h with q | q
  · exact a.new x o q
  · exact .inr (a.hh.free q)⟩
theorem same_upd {H : Hp} {p : Addr} {o : HO} (h : H p = none) : Same H (upd H p o) := fun b x e => by
  rw [upd_ne (ne_of_none e h)]
  exact e
theorem same_upd2 {F H : Hp} {p : Addr} {o : HO} (h : Same F H) : Same (upd F p o) (upd H p o) := fun b x e => by
  by_cases q : b = p
  · subst q; rw [upd_same] at e ⊢; exact e
  · rw [upd_ne q] at e ⊢; exact h b x e
theorem Al.laid {F H : Hp} {p : Addr} {o : HO} (h : Same F H) (n : H p = none) : Al F H (upd F p o) (upd H p o) :=
  ⟨same_upd (h.free n), same_upd n, same_upd2 h, fun a x e => by
    by_cases q : a = p
    · subst q; exact .inr n
    · rw [upd_ne q] at e; exact .inl e⟩
/-- the heap alone grows -/
theorem Al.laidH {F H : Hp} {p : Addr} {o : HO} (h : Same F H) (n : H p = none) : Al F H F (upd H p o) :=
  ⟨Same.refl F, same_upd n, h.trans (same_upd n), fun a x e => .inl e⟩
theorem Al.gr {B F H F' H' : Hp} (a : Al F H F' H') (b : Same B H) : Gr B F F' := ⟨a.ff, fun x o h => by
  rcases a.new x o h with q | q
  · exact .inl q
  · exact .inr (b.free q)⟩

theorem Rd.mono {F F' : Hp} (s : Same F F') {a : Addr} {u : HO} (h : Rd F a u) : Rd F' a u := by
  rcases h with h | ⟨o, h⟩
  · exact .inl (s _ _ h)
  · exact .inr ⟨o, s _ _ h⟩
theorem sqT_mono {K : PySem.W.Frag} {F F' : Hp} (s : Same F F') {a : Addr} {xs : List V} (h : SqT K F a xs) : SqT K F' a xs := by
  rcases h with h | h
  · exact .inl (Rd.mono s h)
  · exact .inr h
mutual
theorem dp_mono {K : PySem.W.Frag} {F F' : Hp} (s : Same F F') : ∀ {d : D} {v : V}, Dp K F v d → Dp K F' v d
  | .none, _, h => by cases h; exact .non
  | .bool _, _, h => by cases h; exact .bl _
  | .int _, _, h => by cases h; exact .int _
  | .str _, _, h => by cases h; exact .str _
  | .list ds, _, h => by
    cases h with
    | lst q r => exact .lst (s.seq q) (dpAll_mono s r)
  | .tuple ds, _, h => by
    cases h with
    | tup q r => exact .tup (sqT_mono s q) (dpAll_mono s r)
  | .dict _, _, h => by cases h
theorem dpAll_mono {K : PySem.W.Frag} {F F' : Hp} (s : Same F F') : ∀ {ds : List D} {vs : List V}, DpAll K F vs ds → DpAll K F' vs ds
  | [], _, h => by cases h; exact .nil
  | d :: ds, _, h => by
    cases h with
    | cons q r => exact .cons (dp_mono s q) (dpAll_mono s r)
end
theorem dictOb_mono {K : PySem.W.Frag} {F F' : Hp} (s : Same F F') {kvs : List (D × D)} {tk : Bool} {u : HO} (h : DictOb K F kvs tk u) : DictOb K F' kvs tk u := by
  cases tk with
  | false =>
    cases u with
    | dK ws =>
      have h : KvK K F kvs ws := h
      show KvK K F' kvs ws
      induction h with
      | nil => exact .nil
      | cons r t ih => exact .cons ⟨r.1, dp_mono s r.2⟩ (ih t)
    | _ => exact h.elim
  | true =>
    cases u with
    | dT ws =>
      have h : KvT K F kvs ws := h
      show KvT K F' kvs ws
      induction h with
      | nil => exact .nil
      | cons r t ih => exact .cons ⟨r.1, dp_mono s r.2⟩ (ih t)
    | _ => exact h.elim
theorem ob_mono {K : PySem.W.Frag} {F F' : Hp} (s : Same F F') {c : Cell} {o : HO} (h : Ob K F c o) : Ob K F' c o := by
  cases c with
  | ol ds =>
    cases o with
    | lst vs => exact dpAll_mono s h
    | _ => exact h
  | od tk kvs => exact dictOb_mono s h
  | dead => exact h
  | sh d => exact h
  | fd tk kvs => exact h
theorem ob_own {K : PySem.W.Frag} {F : Hp} {c : Cell} {o : HO} (h : Ob K F c o) : isOwn c = true := by
  cases c <;> first | rfl | (cases o <;> exact h.elim)
/-! ### lists of data -/
theorem _root_.L2.DpAll.length {K : PySem.W.Frag} {F : Hp} : ∀ {vs : List V} {ds : List D}, DpAll K F vs ds → vs.length = ds.length
  | _, [], h => by cases h; rfl
  | _, d :: ds, h => by
    cases h with
    | cons q r => rw [List.length_cons, List.length_cons, DpAll.length r]
theorem _root_.L2.DpAll.get {K : PySem.W.Frag} {F : Hp} : ∀ {vs : List V} {ds : List D} {i : Nat} {v : V}, DpAll K F vs ds → vs[i]? = some v → ∃ d, ds[i]? = some d ∧ Dp K F v d
  | _, [], i, v, h, e => by cases h; simp at e
  | _, d :: ds, 0, v, h, e => by
    cases h with
    | cons q r => simp at e; subst e; exact ⟨d, rfl, q⟩
  | _, d :: ds, i + 1, v, h, e => by
    cases h with
    | cons q r =>
      obtain ⟨d', e', q'⟩ := DpAll.get (i := i) (v := v) r (by simpa using e)
      exact ⟨d', by simpa using e', q'⟩
theorem _root_.L2.DpAll.get' {K : PySem.W.Frag} {F : Hp} : ∀ {vs : List V} {ds : List D} {i : Nat} {d : D}, DpAll K F vs ds → ds[i]? = some d → ∃ v, vs[i]? = some v ∧ Dp K F v d
  | _, [], i, v, h, e => by simp at e
  | _, d :: ds, 0, v, h, e => by
    cases h with
    | cons q r => simp at e; subst e; exact ⟨_, rfl, q⟩
  | _, d :: ds, i + 1, v, h, e => by
    cases h with
    | cons q r =>
      obtain ⟨d', e', q'⟩ := DpAll.get' (i := i) r (by simpa using e)
      exact ⟨d', by simpa using e', q'⟩
theorem _root_.L2.DpAll.append {K : PySem.W.Frag} {F : Hp} : ∀ {vs ws : List V} {ds es : List D}, DpAll K F vs ds → DpAll K F ws es → DpAll K F (vs ++ ws) (ds ++ es)
  | _, _, [], _, h, r => by cases h; exact r
  | _, _, d :: ds, _, h, r => by
    cases h with
    | cons q t => exact .cons q (DpAll.append t r)
theorem _root_.L2.DpAll.one {K : PySem.W.Frag} {F : Hp} {v : V} {d : D} (h : Dp K F v d) : DpAll K F [v] [d] := .cons h .nil
theorem _root_.L2.DpAll.take {K : PySem.W.Frag} {F : Hp} : ∀ {vs : List V} {ds : List D} (n : Nat), DpAll K F vs ds → DpAll K F (vs.take n) (ds.take n)
  | _, _, 0, _ => .nil
  | _, [], _ + 1, h => by cases h; exact .nil
  | _, d :: ds, n + 1, h => by
    cases h with
    | cons q r => exact .cons q (DpAll.take n r)
theorem _root_.L2.DpAll.drop {K : PySem.W.Frag} {F : Hp} : ∀ {vs : List V} {ds : List D} (n : Nat), DpAll K F vs ds → DpAll K F (vs.drop n) (ds.drop n)
  | _, _, 0, h => h
  | _, [], _ + 1, h => by cases h; exact .nil
  | _, d :: ds, n + 1, h => by
    cases h with
    | cons q r => exact DpAll.drop n r
theorem _root_.L2.DpAll.set {K : PySem.W.Frag} {F : Hp} {v : V} {d : D} (h : Dp K F v d) : ∀ {vs : List V} {ds : List D} (i : Nat), DpAll K F vs ds → DpAll K F (vs.set i v) (ds.set i d)
  | _, [], _, r => by cases r; exact .nil
  | _, e :: ds, 0, r => by
    cases r with
    | cons q t => exact .cons h t
  | _, e :: ds, i + 1, r => by
    cases r with
    | cons q t => exact .cons q (DpAll.set h i t)
theorem _root_.L2.DpAll.reverse {K : PySem.W.Frag} {F : Hp} : ∀ {vs : List V} {ds : List D}, DpAll K F vs ds → DpAll K F vs.reverse ds.reverse
  | _, [], h => by cases h; exact .nil
  | _, d :: ds, h => by
    cases h with
    | cons q r => rw [List.reverse_cons, List.reverse_cons]; exact DpAll.append (DpAll.reverse r) (.one q)
theorem _root_.L2.DpAll.eraseIdx {K : PySem.W.Frag} {F : Hp} : ∀ {vs : List V} {ds : List D} (i : Nat), DpAll K F vs ds → DpAll K F (vs.eraseIdx i) (ds.eraseIdx i)
  | _, [], _, r => by cases r; exact .nil
  | _, e :: ds, 0, r => by
    cases r with
    | cons q t => exact t
  | _, e :: ds, i + 1, r => by
    cases r with
    | cons q t => exact .cons q (DpAll.eraseIdx i t)
theorem _root_.L2.DpAll.dropLast {K : PySem.W.Frag} {F : Hp} {vs : List V} {ds : List D} (h : DpAll K F vs ds) : DpAll K F vs.dropLast ds.dropLast := by
  rw [List.dropLast_eq_take, List.dropLast_eq_take, h.length]
  exact h.take _
theorem dp_ints {K : PySem.W.Frag} {F : Hp} : ∀ ns : List Int, DpAll K F (ns.map V.int) (ns.map PyData.int)
  | [] => .nil
  | n :: ns => .cons (.int n) (dp_ints ns)
theorem dp_ints_inv {K : PySem.W.Frag} {F : Hp} : ∀ {ns : List Int} {vs : List V}, DpAll K F vs (ns.map PyData.int) → vs = ns.map V.int
  | [], _, h => by cases h; rfl
  | n :: ns, _, h => by
    cases h with
    | cons q r => cases q; rw [dp_ints_inv r]; rfl
theorem dp_strs_inv {K : PySem.W.Frag} {F : Hp} : ∀ {ns : List Str} {vs : List V}, DpAll K F vs (ns.map PyData.str) → vs = ns.map V.str
  | [], _, h => by cases h; rfl
  | n :: ns, _, h => by
    cases h with
    | cons q r => cases q; rw [dp_strs_inv r]; rfl
theorem dp_bls_inv {K : PySem.W.Frag} {F : Hp} : ∀ {ns : List Bool} {vs : List V}, DpAll K F vs (ns.map PyData.bool) → vs = ns.map V.bl
  | [], _, h => by cases h; rfl
  | n :: ns, _, h => by
    cases h with
    | cons q r => cases q; rw [dp_bls_inv r]; rfl
/-! ### the state under growing, storing, writing -/
section
variable {K : PySem.W.Frag} {B F F' H H' : Hp} {io : List (Nat × Addr)} {σ : St} {ρ : En}
theorem cellOk_own {x : Option V} {c : Cell} (h : isOwn c = true) : CellOk K B F H x c ↔ ∃ a o, x = some (.ref a) ∧ H a = some o ∧ Ob K F c o ∧ F a = none ∧ B a = none := by
  cases c <;> first | exact Iff.rfl | (cases h)
theorem Con.al (c : Con K B F io σ H ρ) (a : Al F H F' H') : Con K B F' io σ H' ρ := by
  refine ⟨c.len, c.base.trans a.hh, a.sub, fun i e he => ?_, c.sep, c.io⟩
  obtain ⟨x, hx, ok⟩ := c.cell i e he
  refine ⟨x, hx, ?_⟩
  by_cases ho : isOwn e = true
  · rw [cellOk_own ho] at ok ⊢
    obtain ⟨p, o, h1, h2, h3, h4, h5⟩ := ok
    refine ⟨p, o, h1, a.hh _ _ h2, ob_mono a.ff h3, ?_, h5⟩
    cases q : F' p with
    | none => rfl
    | some u =>
      rcases a.new p u q with z | z
      · rw [h4] at z; cases z
      · rw [h2] at z; cases z
  · cases e with
    | dead => trivial
    | sh d => obtain ⟨v, h1, h2⟩ := ok; exact ⟨v, h1, dp_mono a.ff h2⟩
    | fd tk kvs => obtain ⟨p, ob, u, z1, z2, z3⟩ := ok; exact ⟨p, ob, u, z1, a.ff _ _ z2, dictOb_mono a.ff z3⟩
    | _ => exact absurd rfl ho
theorem get_set_cases {α : Type} {l : List α} {i j : Nat} {x y : α} (h : (l.set i x)[j]? = some y) : (j = i ∧ y = x ∧ i < l.length) ∨ (j ≠ i ∧ l[j]? = some y) := by
  by_cases e : i = j
  · subst e
    by_cases q : i < l.length
    · rw [List.getElem?_set_self q] at h
      exact .inl ⟨rfl, (Option.some.inj h).symm, q⟩
    · rw [List.getElem?_eq_none (by rw [List.length_set]; omega)] at h
      cases h
  · rw [List.getElem?_set_ne e] at h
    exact .inr ⟨fun z => e z.symm, h⟩
theorem io_set (c : Con K B F io σ H ρ) {i : Nat} (hi : i ∉ io.map (·.1)) (x : Option V) : ∀ p ∈ io, (σ.set i x)[p.1]? = some (some (.ref p.2)) := fun p hp => by
  rw [List.getElem?_set_ne (fun e => hi (List.mem_map.mpr ⟨p, hp, e.symm⟩))]
  exact c.io p hp
theorem Con.set_sh (c : Con K B F io σ H ρ) {i : Nat} {v : V} {d : D} (hi : i ∉ io.map (·.1)) (h : Dp K F v d) : Con K B F io (σ.set i (some v)) H (ρ.set i (.sh d)) := by
  refine ⟨by rw [List.length_set, List.length_set, c.len], c.base, c.frz, fun j e he => ?_, fun j k e1 e2 a h1 h2 o1 o2 s1 s2 => ?_, io_set c hi _⟩
  · rcases get_set_cases he with ⟨rfl, rfl, hl⟩ | ⟨ne, he⟩
    · exact ⟨some v, by rw [List.getElem?_set_self (by rw [c.len]; exact hl)], v, rfl, h⟩
    · obtain ⟨x, hx, ok⟩ := c.cell j e he
      exact ⟨x, by rw [List.getElem?_set_ne (Ne.symm ne)]; exact hx, ok⟩
  · rcases get_set_cases h1 with ⟨rfl, rfl, hl⟩ | ⟨ne1, h1⟩
    · cases o1
    · rcases get_set_cases h2 with ⟨rfl, rfl, hl⟩ | ⟨ne2, h2⟩
      · cases o2
      · rw [List.getElem?_set_ne (Ne.symm ne1)] at s1
        rw [List.getElem?_set_ne (Ne.symm ne2)] at s2
        exact c.sep j k e1 e2 a h1 h2 o1 o2 s1 s2
/-- the address is no own cell's -/
def NotOwned (σ : St) (ρ : En) (a : Addr) : Prop := ∀ (i : Nat) (c : Cell), ρ[i]? = some c → isOwn c = true → σ[i]? ≠ some (some (.ref a))
theorem Con.set_own (c : Con K B F io σ H ρ) {i : Nat} {a : Addr} {o : HO} {e0 : Cell} (hi : i ∉ io.map (·.1)) (ha : H a = some o) (ob : Ob K F e0 o) (fa : F a = none) (ba : B a = none) (no : NotOwned σ ρ a) :
    Con K B F io (σ.set i (some (.ref a))) H (ρ.set i e0) := by
  have o0 := ob_own ob
  refine ⟨by rw [List.length_set, List.length_set, c.len], c.base, c.frz, fun j e he => ?_, fun j k e1 e2 b h1 h2 o1 o2 s1 s2 => ?_, io_set c hi _⟩
  · rcases get_set_cases he with ⟨rfl, rfl, hl⟩ | ⟨ne, he⟩
    · exact ⟨some (.ref a), by rw [List.getElem?_set_self (by rw [c.len]; exact hl)], (cellOk_own o0).mpr ⟨a, o, rfl, ha, ob, fa, ba⟩⟩
    · obtain ⟨x, hx, ok⟩ := c.cell j e he
      exact ⟨x, by rw [List.getElem?_set_ne (Ne.symm ne)]; exact hx, ok⟩
  · rcases get_set_cases h1 with ⟨rfl, rfl, hl⟩ | ⟨ne1, g1⟩
    · rcases get_set_cases h2 with ⟨rfl, rfl, _⟩ | ⟨ne2, g2⟩
      · rfl
      · rw [List.getElem?_set_self (by rw [c.len]; exact hl)] at s1
        rw [List.getElem?_set_ne (Ne.symm ne2)] at s2
        cases s1
        exact absurd s2 (no k e2 g2 o2)
    · rw [List.getElem?_set_ne (Ne.symm ne1)] at s1
      rcases get_set_cases h2 with ⟨rfl, rfl, hl⟩ | ⟨ne2, g2⟩
      · rw [List.getElem?_set_self (by rw [c.len]; exact hl)] at s2
        cases s2
        exact absurd s1 (no j e1 g1 o1)
      · rw [List.getElem?_set_ne (Ne.symm ne2)] at s2
        exact c.sep j k e1 e2 b g1 g2 o1 o2 s1 s2
/-- a slot is forgotten, whatever it is given -/
theorem Con.kill (c : Con K B F io σ H ρ) (i : Nat) : Con K B F io σ H (ρ.set i .dead) := by
  refine ⟨by rw [List.length_set, c.len], c.base, c.frz, fun j e he => ?_, fun j k e1 e2 b h1 h2 o1 o2 s1 s2 => ?_, c.io⟩
  · rcases get_set_cases he with ⟨rfl, rfl, hl⟩ | ⟨ne, he⟩
    · exact ⟨σ[j]'(by rw [c.len]; exact hl), List.getElem?_eq_getElem _, trivial⟩
    · exact c.cell j e he
  · rcases get_set_cases h1 with ⟨rfl, rfl, hl⟩ | ⟨ne1, h1⟩
    · cases o1
    · rcases get_set_cases h2 with ⟨rfl, rfl, hl⟩ | ⟨ne2, h2⟩
      · cases o2
      · exact c.sep j k e1 e2 b h1 h2 o1 o2 s1 s2
theorem Con.setDead (c : Con K B F io σ H ρ) {i : Nat} (hi : i ∉ io.map (·.1)) (x : Option V) : Con K B F io (σ.set i x) H (ρ.set i .dead) := by
  refine ⟨by rw [List.length_set, List.length_set, c.len], c.base, c.frz, fun j e he => ?_, fun j k e1 e2 a h1 h2 o1 o2 s1 s2 => ?_, io_set c hi _⟩
  · rcases get_set_cases he with ⟨rfl, rfl, hl⟩ | ⟨ne, he⟩
    · exact ⟨x, by rw [List.getElem?_set_self (by rw [c.len]; exact hl)], trivial⟩
    · obtain ⟨x, hx, ok⟩ := c.cell j e he
      exact ⟨x, by rw [List.getElem?_set_ne (Ne.symm ne)]; exact hx, ok⟩
  · rcases get_set_cases h1 with ⟨rfl, rfl, hl⟩ | ⟨ne1, h1⟩
    · cases o1
    · rcases get_set_cases h2 with ⟨rfl, rfl, hl⟩ | ⟨ne2, h2⟩
      · cases o2
      · rw [List.getElem?_set_ne (Ne.symm ne1)] at s1
        rw [List.getElem?_set_ne (Ne.symm ne2)] at s2
        exact c.sep j k e1 e2 a h1 h2 o1 o2 s1 s2
theorem Con.own (c : Con K B F io σ H ρ) {i : Nat} {e : Cell} (h : ρ[i]? = some e) (o1 : isOwn e = true) : ∃ a o, σ[i]? = some (some (.ref a)) ∧ H a = some o ∧ Ob K F e o ∧ F a = none ∧ B a = none := by
  obtain ⟨x, hx, ok⟩ := c.cell i e h
  obtain ⟨a, o, h1, h2, h3, h4, h5⟩ := (cellOk_own o1).mp ok
  subst h1
  exact ⟨a, o, hx, h2, h3, h4, h5⟩
/-- the own object of slot i is written -/
theorem Con.write (c : Con K B F io σ H ρ) {i : Nat} {a : Addr} {o' : HO} {e e' : Cell} (h : ρ[i]? = some e) (o1 : isOwn e = true) (hs : σ[i]? = some (some (.ref a))) (ob : Ob K F e' o') :
    Con K B F io σ (upd H a o') (ρ.set i e') := by
  obtain ⟨a', o, h1, h2, h3, h4, h5⟩ := c.own h o1
  have ea : a' = a := by rw [hs] at h1; cases h1; rfl
  subst ea
  have o2 := ob_own ob
  have same : ∀ {G : Hp}, Same G H → G a' = none → Same G (upd H a' o') := fun {G} s n b x q => by
    rw [upd_ne (ne_of_none q n)]
    exact s b x q
  refine ⟨by rw [List.length_set, c.len], same c.base h5, same c.frz h4, fun j u he => ?_, fun j k e1 e2 b q1 q2 w1 w2 s1 s2 => ?_, c.io⟩
  · rcases get_set_cases he with ⟨rfl, rfl, hl⟩ | ⟨ne, he⟩
    · exact ⟨_, hs, (cellOk_own o2).mpr ⟨a', o', rfl, upd_same, ob, h4, h5⟩⟩
    · obtain ⟨x, hx, ok⟩ := c.cell j u he
      refine ⟨x, hx, ?_⟩
      by_cases ho : isOwn u = true
      · rw [cellOk_own ho] at ok ⊢
        obtain ⟨p, w, g1, g2, g3, g4, g5⟩ := ok
        subst g1
        refine ⟨p, w, rfl, ?_, g3, g4, g5⟩
        have np : p ≠ a' := fun z => ne (c.sep j i u e a' he h ho o1 (by rw [hx, z]) hs)
        rw [upd_ne np]
        exact g2
      · cases u with
        | dead => trivial
        | sh d => exact ok
        | fd tk kvs => exact ok
        | _ => exact absurd rfl ho
  · rcases get_set_cases q1 with ⟨rfl, rfl, hl⟩ | ⟨ne1, g1⟩
    · rcases get_set_cases q2 with ⟨rfl, rfl, _⟩ | ⟨ne2, g2⟩
      · rfl
      · exact c.sep j k e e2 b h g2 o1 w2 s1 s2
    · rcases get_set_cases q2 with ⟨rfl, rfl, _⟩ | ⟨ne2, g2⟩
      · exact c.sep j k e1 e b g1 h w1 o1 s1 s2
      · exact c.sep j k e1 e2 b g1 g2 w1 w2 s1 s2
/-- what is frozen may be seen as new beside it -/
theorem Con.fresh_notOwned (c : Con K B F io σ H ρ) {a : Addr} (h : H a = none) : NotOwned σ ρ a := fun i e he ho q => by
  obtain ⟨p, o, h1, h2, _⟩ := c.own he ho
  rw [q] at h1
  cases h1
  rw [h] at h2
  cases h2
/-- an own list is frozen -/
theorem Con.freezeV (c : Con K B F io σ H ρ) {i : Nat} {ds : List D} (h : ρ[i]? = some (.ol ds)) : ∃ a vs, σ[i]? = some (some (.ref a)) ∧ H a = some (.lst vs) ∧ DpAll K F vs ds ∧ Gr B F (upd F a (.lst vs)) ∧ Dp K (upd F a (.lst vs)) (.ref a) (.list ds) ∧ Con K B (upd F a (.lst vs)) io σ H (ρ.set i (.sh (.list ds))) := by
  obtain ⟨a, o, h1, h2, h3, h4, h5⟩ := c.own h rfl
  cases o with
  | lst vs =>
    have ob : DpAll K F vs ds := h3
    have s1 : Same F (upd F a (.lst vs)) := same_upd h4
    have dd : Dp K (upd F a (.lst vs)) (.ref a) (.list ds) := .lst (.inl (.inl upd_same)) (dpAll_mono s1 ob)
    refine ⟨a, vs, h1, h2, ob, ⟨s1, fun b x e => ?_⟩, dd, ⟨by rw [List.length_set, c.len], c.base, fun b x e => ?_, fun j u he => ?_, fun j k e1 e2 b q1 q2 w1 w2 t1 t2 => ?_, c.io⟩⟩
    · by_cases q : b = a
      · subst q; exact .inr h5
      · rw [upd_ne q] at e; exact .inl e
    · by_cases q : b = a
      · subst q; rw [upd_same] at e; rw [h2]; exact e
      · rw [upd_ne q] at e; exact c.frz b x e
    · rcases get_set_cases he with ⟨rfl, rfl, hl⟩ | ⟨ne, he⟩
      · exact ⟨_, h1, .ref a, rfl, dd⟩
      · obtain ⟨x, hx, ok⟩ := c.cell j u he
        refine ⟨x, hx, ?_⟩
        by_cases ho : isOwn u = true
        · rw [cellOk_own ho] at ok ⊢
          obtain ⟨p, w, g1, g2, g3, g4, g5⟩ := ok
          subst g1
          refine ⟨p, w, rfl, g2, ob_mono s1 g3, ?_, g5⟩
          have np : p ≠ a := fun z => ne (c.sep j i u (.ol ds) a he h ho rfl (by rw [hx, z]) h1)
          rw [upd_ne np]
          exact g4
        · cases u with
          | dead => trivial
          | sh d => obtain ⟨v, z1, z2⟩ := ok; exact ⟨v, z1, dp_mono s1 z2⟩
          | fd tk kvs => obtain ⟨p, ob, u, z1, z2, z3⟩ := ok; exact ⟨p, ob, u, z1, s1 _ _ z2, dictOb_mono s1 z3⟩
          | _ => exact absurd rfl ho
    · rcases get_set_cases q1 with ⟨rfl, rfl, hl⟩ | ⟨ne1, q1⟩
      · cases w1
      · rcases get_set_cases q2 with ⟨rfl, rfl, hl⟩ | ⟨ne2, q2⟩
        · cases w2
        · exact c.sep j k e1 e2 b q1 q2 w1 w2 t1 t2
  | _ => exact False.elim h3
theorem Con.freeze (c : Con K B F io σ H ρ) {i : Nat} {ds : List D} (h : ρ[i]? = some (.ol ds)) : ∃ a F', σ[i]? = some (some (.ref a)) ∧ Gr B F F' ∧ Dp K F' (.ref a) (.list ds) ∧ Con K B F' io σ H (ρ.set i (.sh (.list ds))) := by
  obtain ⟨a, vs, h1, _, _, g, dd, c'⟩ := c.freezeV h
  exact ⟨a, _, h1, g, dd, c'⟩
end
end L2.Pd

namespace L2.Pd
open PySem PySem.Spec PyProof.Rows
/-! ## The judgements: a piece of syntax, its reading, and the plain function that it is -/
abbrev FE := En → Option (D × En)
abbrev FN := En → Option (Cell × En)
abbrev FT := En → Option (Bool × En)
abbrev FA := En → Option (List D × En)
def SE (K : PySem.W.Frag) (t : TE) (f : FE) : Prop := ∀ (B F : Hp) (io : List (Nat × Addr)) (σ : St) (H : Hp) (ρ : En) (d : D) (ρ' : En) (Q : VK), Con K B F io σ H ρ → f ρ = some (d, ρ') →
  (∀ F' H' v, Gr B F F' → Con K B F' io σ H' ρ' → Dp K F' v d → Q v H') → t σ H Q
def SN (K : PySem.W.Frag) (t : TE) (f : FN) : Prop := ∀ (B F : Hp) (io : List (Nat × Addr)) (σ : St) (H : Hp) (ρ : En) (c : Cell) (ρ' : En) (Q : VK), Con K B F io σ H ρ → f ρ = some (c, ρ') →
  (∀ F' H' a o, Gr B F F' → Con K B F' io σ H' ρ' → H' a = some o → Ob K F' c o → F' a = none → B a = none → NotOwned σ ρ' a → Q (.ref a) H') → t σ H Q
def ST (K : PySem.W.Frag) (t : TT) (f : FT) : Prop := ∀ (B F : Hp) (io : List (Nat × Addr)) (σ : St) (H : Hp) (ρ : En) (b : Bool) (ρ' : En) (Q : Bool → Hp → Prop), Con K B F io σ H ρ → f ρ = some (b, ρ') →
  (∀ F' H', Gr B F F' → Con K B F' io σ H' ρ' → Q b H') → t σ H Q
def SA (K : PySem.W.Frag) (t : TA) (f : FA) : Prop := ∀ (B F : Hp) (io : List (Nat × Addr)) (σ : St) (H : Hp) (ρ : En) (ds : List D) (ρ' : En) (Q : List V → Hp → Prop), Con K B F io σ H ρ → f ρ = some (ds, ρ') →
  (∀ F' H' vs, Gr B F F' → Con K B F' io σ H' ρ' → DpAll K F' vs ds → Q vs H') → t σ H Q
structure DE (X : Cx) (e : Expr) (t : TE) (f : FE) : Prop where
  pe : PE X e t
  se : SE X.K t f
structure DN (X : Cx) (e : Expr) (t : TE) (f : FN) : Prop where
  pe : PE X e t
  se : SN X.K t f
structure DT (X : Cx) (e : Expr) (t : TT) (f : FT) : Prop where
  pe : PT X e t
  se : ST X.K t f
structure DW (X : Cx) (e : Expr) (t : TT) (f : FT) : Prop where
  pe : PW X e t
  se : ST X.K t f
structure DA (X : Cx) (es : List Expr) (t : TA) (f : FA) : Prop where
  pe : PA X es t
  se : SA X.K t f
theorem DW.dt {X : Cx} {e : Expr} {t : TT} {f : FT} (h : DW X e t f) : DT X e t f := ⟨h.pe.pt, h.se⟩
/-! ### operations on values -/
def Op1 (K : PySem.W.Frag) (r : V → Hp → VK → Prop) (g : D → Option D) : Prop := ∀ (F H : Hp) (x : V) (dx d : D) (Q : VK), Same F H → Dp K F x dx → g dx = some d → (∀ F' H' v, Al F H F' H' → Dp K F' v d → Q v H') → r x H Q
def Op2 (K : PySem.W.Frag) (r : R2) (g : D → D → Option D) : Prop := ∀ (F H : Hp) (x y : V) (dx dy d : D) (Q : VK), Same F H → Dp K F x dx → Dp K F y dy → g dx dy = some d → (∀ F' H' v, Al F H F' H' → Dp K F' v d → Q v H') → r x y H Q
def Op2N (K : PySem.W.Frag) (r : R2) (g : D → D → Option Cell) : Prop := ∀ (F H : Hp) (x y : V) (dx dy : D) (c : Cell) (Q : VK), Same F H → Dp K F x dx → Dp K F y dy → g dx dy = some c →
  (∀ F' H' a o, Al F H F' H' → H' a = some o → Ob K F' c o → F' a = none → H a = none → Q (.ref a) H') → r x y H Q
def OpA (K : PySem.W.Frag) (r : List V → Hp → VK → Prop) (g : List D → Option D) : Prop := ∀ (F H : Hp) (xs : List V) (ds : List D) (d : D) (Q : VK), Same F H → DpAll K F xs ds → g ds = some d → (∀ F' H' v, Al F H F' H' → Dp K F' v d → Q v H') → r xs H Q
def OpAN (K : PySem.W.Frag) (r : List V → Hp → VK → Prop) (g : List D → Option Cell) : Prop := ∀ (F H : Hp) (xs : List V) (ds : List D) (c : Cell) (Q : VK), Same F H → DpAll K F xs ds → g ds = some c →
  (∀ F' H' a o, Al F H F' H' → H' a = some o → Ob K F' c o → F' a = none → H a = none → Q (.ref a) H') → r xs H Q
def OpM (K : PySem.W.Frag) (T : String) (r : V → List V → Hp → VK → Prop) (g : D → List D → Option D) : Prop := ∀ (F H : Hp) (x : V) (xs : List V) (dx : D) (ds : List D) (d : D) (Q : VK), Same F H → Dp K F x dx → DpAll K F xs ds → g dx ds = some d →
  (∀ F' H' v, Al F H F' H' → Dp K F' v d → Q v H') → r x xs H Q
/-- a new list may be frozen -/
theorem al_freeze {K : PySem.W.Frag} {F H F' H' : Hp} {a : Addr} {ds : List D} {o : HO} (al : Al F H F' H') (ha : H' a = some o) (ob : Ob K F' (.ol ds) o) (fa : F' a = none) (na : H a = none) :
    ∃ F2, Al F H F2 H' ∧ Dp K F2 (.ref a) (.list ds) := by
  cases o with
  | lst vs =>
    have s1 : Same F' (upd F' a (.lst vs)) := same_upd fa
    refine ⟨upd F' a (.lst vs), ⟨al.ff.trans s1, al.hh, fun b x e => ?_, fun b x e => ?_⟩, .lst (.inl (.inl upd_same)) (dpAll_mono s1 ob)⟩
    · by_cases q : b = a
      · subst q; rw [upd_same] at e; rw [ha]; exact e
      · rw [upd_ne q] at e; exact al.sub b x e
    · by_cases q : b = a
      · subst q; exact .inr na
      · rw [upd_ne q] at e; exact al.new b x e
  | _ => exact False.elim ob
def frzC : Cell → Option D
  | .ol ds => some (.list ds)
  | _ => none
theorem Op2N.frz {K : PySem.W.Frag} {r : R2} {g : D → D → Option Cell} (h : Op2N K r g) : Op2 K r (fun x y => (g x y).bind frzC) := by
  intro F H x y dx dy d Q s hx hy e k
  obtain ⟨c, e1, e2⟩ := Option.bind_eq_some_iff.mp e
  refine h F H x y dx dy c Q s hx hy e1 fun F' H' a o al ha ob fa na => ?_
  cases c with
  | ol ds =>
    cases e2
    obtain ⟨F2, al2, dd⟩ := al_freeze al ha ob fa na
    exact k F2 H' _ al2 dd
  | _ => cases e2
theorem OpAN.frz {K : PySem.W.Frag} {r : List V → Hp → VK → Prop} {g : List D → Option Cell} (h : OpAN K r g) : OpA K r (fun x => (g x).bind frzC) := by
  intro F H x dx d Q s hx e k
  obtain ⟨c, e1, e2⟩ := Option.bind_eq_some_iff.mp e
  refine h F H x dx c Q s hx e1 fun F' H' a o al ha ob fa na => ?_
  cases c with
  | ol ds =>
    cases e2
    obtain ⟨F2, al2, dd⟩ := al_freeze al ha ob fa na
    exact k F2 H' _ al2 dd
  | _ => cases e2
/-! ### names, constants -/
def eVar (i : Nat) : FE := fun ρ => match ρ[i]? with
  | some (.sh d) => some (d, ρ)
  | some (.ol ds) => some (.list ds, ρ.set i (.sh (.list ds)))
  | _ => none
def eC (d : D) : FE := fun ρ => some (d, ρ)
section
variable {X : Cx}
theorem se_var {K : PySem.W.Frag} (i : Nat) : SE K (tVar i) (eVar i) := by
  intro B F io σ H ρ d ρ' Q c h k
  unfold eVar at h
  cases e : ρ[i]? with
  | none => rw [e] at h; cases h
  | some u =>
    rw [e] at h
    cases u with
    | sh d0 =>
      cases h
      obtain ⟨x, hx, v, rfl, dd⟩ := c.cell i _ e
      exact ⟨v, hx, k F H v (Gr.refl _ _) c dd⟩
    | ol ds =>
      cases h
      obtain ⟨a, F', h1, g, dd, c'⟩ := c.freeze e
      exact ⟨.ref a, h1, k F' H _ g c' dd⟩
    | _ => cases h
theorem de_var (i : Nat) {x : Str} {pos : Pos} (hN : X.N[i]? = some x := by rfl) (hv : Vis X.env.scope x := by first | exact Or.inl rfl | exact Or.inr (Or.inl rfl) | exact Or.inr (Or.inr rfl)) (hd : (x == ("__debug__" : Str)) = false := by decide)
    (hcd : (x == ("__classdict__" : Str)) = false := by decide) : DE X (.Name x pos) (tVar i) (eVar i) := ⟨pe_var hN hv hd hcd, se_var i⟩
theorem se_c {K : PySem.W.Frag} {v : V} {d : D} (h : ∀ F, Dp K F v d) : SE K (tC v) (eC d) := by
  intro B F io σ H ρ d' ρ' Q c e k
  cases e
  exact k F H v (Gr.refl _ _) c (h F)
theorem de_int {i : Int} {j pos} : DE X (.Constant (.int i) j pos) (tC (.int i)) (eC (.int i)) := ⟨pe_int, se_c fun _ => .int i⟩
theorem de_bl {b : Bool} {j pos} : DE X (.Constant (.bool b) j pos) (tC (.bl b)) (eC (.bool b)) := ⟨pe_bl, se_c fun _ => .bl b⟩
theorem de_non {j pos} : DE X (.Constant .none j pos) (tC .non) (eC .none) := ⟨pe_non, se_c fun _ => .non⟩
theorem de_str {x : Str} {j pos} : DE X (.Constant (.str x) j pos) (tC (.str x)) (eC (.str x)) := ⟨pe_str, se_c fun _ => .str x⟩
/-- a module's constant -/
theorem de_glob {x : Str} {v : V} {u : Value} {d : D} {pos : Pos} (hm : X.mg x = some u) (r : RelV v u) (h : ∀ F, Dp X.K F v d) (hg : Gl X x := by rfl) (hd : (x == ("__debug__" : Str)) = false := by decide) : DE X (.Name x pos) (tC v) (eC d) :=
  ⟨pe_glob hg hm r hd, se_c h⟩
end
/-! ### operators -/
def eBin (g : D → D → Option D) (fa fb : FE) : FE := fun ρ => (fa ρ).bind fun p => (fb p.2).bind fun q => (g p.1 q.1).map fun d => (d, q.2)
def eBinN (g : D → D → Option Cell) (fa fb : FE) : FN := fun ρ => (fa ρ).bind fun p => (fb p.2).bind fun q => (g p.1 q.1).map fun d => (d, q.2)
def eUn (g : D → Option D) (fa : FE) : FE := fun ρ => (fa ρ).bind fun p => (g p.1).map fun d => (d, p.2)
theorem se_bin {K : PySem.W.Frag} {r : R2} {g : D → D → Option D} {ta tb : TE} {fa fb : FE} (hg : Op2 K r g) (ha : SE K ta fa) (hb : SE K tb fb) : SE K (tOp r ta tb) (eBin g fa fb) := by
  intro B F io σ H ρ d ρ' Q c h k
  obtain ⟨p, e1, h⟩ := Option.bind_eq_some_iff.mp h
  obtain ⟨q, e2, h⟩ := Option.bind_eq_some_iff.mp h
  obtain ⟨z, e3, h⟩ := Option.map_eq_some_iff.mp h
  cases h
  refine ha B F io σ H ρ p.1 p.2 _ c e1 fun F1 H1 x g1 c1 d1 => ?_
  refine hb B F1 io σ H1 p.2 q.1 q.2 _ c1 e2 fun F2 H2 y g2 c2 d2 => ?_
  exact hg F2 H2 x y p.1 q.1 d Q c2.frz (dp_mono g2.sub d1) d2 e3 fun F3 H3 v al d3 => k F3 H3 v ((g1.trans g2).trans (al.gr c2.base)) (c2.al al) d3
theorem notOwned_fresh {K : PySem.W.Frag} {B F H : Hp} {io : List (Nat × Addr)} {σ : St} {ρ : En} {a : Addr} (c : Con K B F io σ H ρ) (h : H a = none) : NotOwned σ ρ a := c.fresh_notOwned h
theorem se_binN {K : PySem.W.Frag} {r : R2} {g : D → D → Option Cell} {ta tb : TE} {fa fb : FE} (hg : Op2N K r g) (ha : SE K ta fa) (hb : SE K tb fb) : SN K (tOp r ta tb) (eBinN g fa fb) := by
  intro B F io σ H ρ d ρ' Q c h k
  obtain ⟨p, e1, h⟩ := Option.bind_eq_some_iff.mp h
  obtain ⟨q, e2, h⟩ := Option.bind_eq_some_iff.mp h
  obtain ⟨z, e3, h⟩ := Option.map_eq_some_iff.mp h
  cases h
  refine ha B F io σ H ρ p.1 p.2 _ c e1 fun F1 H1 x g1 c1 d1 => ?_
  refine hb B F1 io σ H1 p.2 q.1 q.2 _ c1 e2 fun F2 H2 y g2 c2 d2 => ?_
  exact hg F2 H2 x y p.1 q.1 d Q c2.frz (dp_mono g2.sub d1) d2 e3 fun F3 H3 a o al ha ob fa na => k F3 H3 a o ((g1.trans g2).trans (al.gr c2.base)) (c2.al al) ha ob fa (c2.base.free na) (c2.fresh_notOwned na)
theorem se_un {K : PySem.W.Frag} {r : V → Hp → VK → Prop} {g : D → Option D} {ta : TE} {fa : FE} (hg : Op1 K r g) (ha : SE K ta fa) : SE K (tUn r ta) (eUn g fa) := by
  intro B F io σ H ρ d ρ' Q c h k
  obtain ⟨p, e1, h⟩ := Option.bind_eq_some_iff.mp h
  obtain ⟨z, e3, h⟩ := Option.map_eq_some_iff.mp h
  cases h
  refine ha B F io σ H ρ p.1 p.2 _ c e1 fun F1 H1 x g1 c1 d1 => ?_
  exact hg F1 H1 x p.1 d Q c1.frz d1 e3 fun F3 H3 v al d3 => k F3 H3 v (g1.trans (al.gr c1.base)) (c1.al al) d3
section
variable {X : Cx} {a b c : Expr} {ta tb tc : TE} {fa fb fc : FE} {pos : Pos}
theorem de_bin {op : Operator} {r : R2} {g : D → D → Option D} (ho : OpR X (binaryOp op) r) (hg : Op2 X.K r g) (ha : DE X a ta fa) (hb : DE X b tb fb) : DE X (.BinOp a op b pos) (tOp r ta tb) (eBin g fa fb) :=
  ⟨pe_op ho ha.pe hb.pe, se_bin hg ha.se hb.se⟩
theorem dn_bin {op : Operator} {r : R2} {g : D → D → Option Cell} (ho : OpR X (binaryOp op) r) (hg : Op2N X.K r g) (ha : DE X a ta fa) (hb : DE X b tb fb) : DN X (.BinOp a op b pos) (tOp r ta tb) (eBinN g fa fb) :=
  ⟨pe_op ho ha.pe hb.pe, se_binN hg ha.se hb.se⟩
theorem de_un {op : UnaryOp} {r : V → Hp → VK → Prop} {g : D → Option D} (ho : UnR X (unaryOp op) r) (hg : Op1 X.K r g) (ha : DE X a ta fa) : DE X (.UnaryOp op a pos) (tUn r ta) (eUn g fa) :=
  ⟨pe_un ho ha.pe, se_un hg ha.se⟩
/-- a comparison as a value -/
theorem de_cmp {op : CmpOp} {r : R2} {g : D → D → Option D} (ho : OpR X (compareOp op) r) (hg : Op2 X.K r g) (ha : DE X a ta fa) (hb : DE X b tb fb) (hm : behindInMarks op b = false := by first | exact nomark _ | rfl) : DE X (.Compare a [op] [b] pos) (tOp r ta tb) (eBin g fa fb) :=
  ⟨pe_cmpR ho ha.pe hb.pe hm, se_bin hg ha.se hb.se⟩
def tstD : D → Option Bool
  | .bool b => some b
  | _ => none
def eTst (f : FE) : FT := fun ρ => (f ρ).bind fun p => (tstD p.1).map fun b => (b, p.2)
theorem st_tst {K : PySem.W.Frag} {t : TE} {f : FE} (h : SE K t f) : ST K (tTest t) (eTst f) := by
  intro B F io σ H ρ b ρ' Q c e k
  obtain ⟨p, e1, e⟩ := Option.bind_eq_some_iff.mp e
  obtain ⟨z, e3, e⟩ := Option.map_eq_some_iff.mp e
  cases e
  refine h B F io σ H ρ p.1 p.2 _ c e1 fun F1 H1 x g1 c1 d1 => ?_
  cases hp : p.1 <;> rw [hp] at e3 d1 <;> cases e3
  cases d1
  exact ⟨_, rfl, k F1 H1 g1 c1⟩
theorem dt_cmp {op : CmpOp} {r : R2} {g : D → D → Option D} (ho : OpR X (compareOp op) r) (hg : Op2 X.K r g) (ha : DE X a ta fa) (hb : DE X b tb fb) (hm : behindInMarks op b = false := by first | exact nomark _ | rfl) : DT X (.Compare a [op] [b] pos) (tTest (tOp r ta tb)) (eTst (eBin g fa fb)) :=
  ⟨pt_cmpR ho ha.pe hb.pe hm, st_tst (se_bin hg ha.se hb.se)⟩
/-- a op1 b op2 c -/
def eChain (g g' : D → D → Option D) (fa fb fc : FE) : FE := fun ρ => (fa ρ).bind fun p => (fb p.2).bind fun q => ((g p.1 q.1).bind tstD).bind fun k =>
  if k = true then (fc q.2).bind fun s => (g' q.1 s.1).map fun d => (d, s.2) else some (.bool false, q.2)
theorem se_chain {K : PySem.W.Frag} {r r' : R2} {g g' : D → D → Option D} (hg : Op2 K r g) (hg' : Op2 K r' g') (ha : SE K ta fa) (hb : SE K tb fb) (hc : SE K tc fc) : SE K (tChain r r' ta tb tc) (eChain g g' fa fb fc) := by
  intro B F io σ H ρ d ρ' Q c h k
  obtain ⟨p, e1, h⟩ := Option.bind_eq_some_iff.mp h
  obtain ⟨q, e2, h⟩ := Option.bind_eq_some_iff.mp h
  obtain ⟨z, e3, h⟩ := Option.bind_eq_some_iff.mp h
  obtain ⟨w, e3, e4⟩ := Option.bind_eq_some_iff.mp e3
  refine ha B F io σ H ρ p.1 p.2 _ c e1 fun F1 H1 x g1 c1 d1 => ?_
  refine hb B F1 io σ H1 p.2 q.1 q.2 _ c1 e2 fun F2 H2 y g2 c2 d2 => ?_
  refine hg F2 H2 x y p.1 q.1 w _ c2.frz (dp_mono g2.sub d1) d2 e3 fun F3 H3 v al d3 => ?_
  cases w <;> cases e4
  cases d3
  refine ⟨z, rfl, ?_⟩
  have g3 := (g1.trans g2).trans (al.gr c2.base)
  have c3 := c2.al al
  cases z with
  | false =>
    rw [if_neg Bool.false_ne_true] at h ⊢
    cases h
    exact k F3 H3 _ g3 c3 (.bl false)
  | true =>
    rw [if_pos rfl] at h ⊢
    obtain ⟨s, e5, h⟩ := Option.bind_eq_some_iff.mp h
    obtain ⟨u, e6, h⟩ := Option.map_eq_some_iff.mp h
    cases h
    refine hc B F3 io σ H3 q.2 s.1 s.2 _ c3 e5 fun F4 H4 x4 g4 c4 d4 => ?_
    exact hg' F4 H4 y x4 q.1 s.1 d Q c4.frz (dp_mono (al.ff.trans g4.sub) d2) d4 e6 fun F5 H5 v5 al5 d5 => k F5 H5 v5 ((g3.trans g4).trans (al5.gr c4.base)) (c4.al al5) d5
theorem de_chain {op op' : CmpOp} {r r' : R2} {g g' : D → D → Option D} (ho : OpR X (compareOp op) r) (hg : Op2 X.K r g) (ho' : OpR X (compareOp op') r') (hg' : Op2 X.K r' g') (ha : DE X a ta fa) (hb : DE X b tb fb) (hc : DE X c tc fc)
    (hm : lastMarks [op, op'] [b, c] = false := by with_unfolding_all rfl) : DE X (.Compare a [op, op'] [b, c] pos) (tChain r r' ta tb tc) (eChain g g' fa fb fc) :=
  ⟨pe_chain ho ho' ha.pe hb.pe hc.pe hm, se_chain hg hg' ha.se hb.se hc.se⟩
theorem dt_chain {op op' : CmpOp} {r r' : R2} {g g' : D → D → Option D} (ho : OpR X (compareOp op) r) (hg : Op2 X.K r g) (ho' : OpR X (compareOp op') r') (hg' : Op2 X.K r' g') (ha : DE X a ta fa) (hb : DE X b tb fb) (hc : DE X c tc fc)
    (hm : lastMarks [op, op'] [b, c] = false := by with_unfolding_all rfl) : DT X (.Compare a [op, op'] [b, c] pos) (tTest (tChain r r' ta tb tc)) (eTst (eChain g g' fa fb fc)) :=
  ⟨pt_chain ho ho' ha.pe hb.pe hc.pe hm, st_tst (se_chain hg hg' ha.se hb.se hc.se)⟩
/-! ### truth, and, or, not, if -/
def truD : D → Option Bool
  | .none => some false
  | .bool b => some b
  | .int i => some (i != 0)
  | .str x => if x.length ≤ sizeLine then some ((x.length : Int) != 0) else none
  | .list ds => some (!ds.isEmpty)
  | .tuple ds => some (!ds.isEmpty)
  | .dict _ => none
def eTru (f : FE) : FT := fun ρ => (f ρ).bind fun p => (truD p.1).map fun b => (b, p.2)
theorem isEmpty_dp {K : PySem.W.Frag} {F : Hp} {vs : List V} {ds : List D} (h : DpAll K F vs ds) : vs.isEmpty = ds.isEmpty := by
  cases h <;> rfl
theorem tru_dp {K : PySem.W.Frag} {F H : Hp} {v : V} {d : D} {b : Bool} (s : Same F H) (h : Dp K F v d) (e : truD d = some b) : TruV K v H b := by
  cases h with
  | non => cases e; rfl
  | bl b => cases e; rfl
  | int i => cases e; rfl
  | str x =>
    have e : (if x.length ≤ sizeLine then some ((x.length : Int) != 0) else none) = some b := e
    by_cases hz : x.length ≤ sizeLine
    · rw [if_pos hz] at e; cases e; exact ⟨hz, rfl⟩
    · rw [if_neg hz] at e; cases e
  | lst q r => cases e; exact .inl ⟨_, s.seq q, by rw [isEmpty_dp r]⟩
  | tup q r => cases e; exact .inr (.inl ⟨_, sqT_mono s q, by rw [isEmpty_dp r]⟩)
theorem st_tru {K : PySem.W.Frag} {t : TE} {f : FE} (h : SE K t f) : ST K (fun σ H Q => t σ H fun x H' => ∃ k, TruV K x H' k ∧ Q k H') (eTru f) := by
  intro B F io σ H ρ b ρ' Q c e k
  obtain ⟨p, e1, e⟩ := Option.bind_eq_some_iff.mp e
  obtain ⟨z, e3, e⟩ := Option.map_eq_some_iff.mp e
  cases e
  exact h B F io σ H ρ p.1 p.2 _ c e1 fun F1 H1 x g1 c1 d1 => ⟨b, tru_dp c1.frz d1 e3, k F1 H1 g1 c1⟩
theorem dt_tru (ha : DE X a ta fa) (he : ∀ whole, isTrue a X.env whole = (do let v ← whole; standAt a.pos; holding [v] (truthy v)) := by intro _; rfl) :
    DT X a (fun σ H Q => ta σ H fun x H' => ∃ k, TruV X.K x H' k ∧ Q k H') (eTru fa) := ⟨pt_truth ha.pe he, st_tru ha.se⟩
def eAnd (fa fb : FT) : FT := fun ρ => (fa ρ).bind fun p => if p.1 = true then fb p.2 else some (false, p.2)
def eOr (fa fb : FT) : FT := fun ρ => (fa ρ).bind fun p => if p.1 = true then some (true, p.2) else fb p.2
def eNot (fa : FT) : FT := fun ρ => (fa ρ).map fun p => (!p.1, p.2)
variable {tA tB' : TT} {fA fB : FT} {rest : List Expr}
theorem st_and {K : PySem.W.Frag} (ha : ST K tA fA) (hb : ST K tB' fB) : ST K (tAnd tA tB') (eAnd fA fB) := by
  intro B F io σ H ρ b ρ' Q c e k
  obtain ⟨p, e1, e⟩ := Option.bind_eq_some_iff.mp e
  refine ha B F io σ H ρ p.1 p.2 _ c e1 fun F1 H1 g1 c1 => ?_
  by_cases hp : p.1 = true
  · rw [if_pos hp] at e ⊢
    exact hb B F1 io σ H1 p.2 b ρ' Q c1 e fun F2 H2 g2 c2 => k F2 H2 (g1.trans g2) c2
  · rw [if_neg hp] at e ⊢
    cases e
    exact k F1 H1 g1 c1
theorem st_or {K : PySem.W.Frag} (ha : ST K tA fA) (hb : ST K tB' fB) : ST K (tOr tA tB') (eOr fA fB) := by
  intro B F io σ H ρ b ρ' Q c e k
  obtain ⟨p, e1, e⟩ := Option.bind_eq_some_iff.mp e
  refine ha B F io σ H ρ p.1 p.2 _ c e1 fun F1 H1 g1 c1 => ?_
  by_cases hp : p.1 = true
  · rw [if_pos hp] at e ⊢
    cases e
    exact k F1 H1 g1 c1
  · rw [if_neg hp] at e ⊢
    exact hb B F1 io σ H1 p.2 b ρ' Q c1 e fun F2 H2 g2 c2 => k F2 H2 (g1.trans g2) c2
theorem st_not {K : PySem.W.Frag} (ha : ST K tA fA) : ST K (tNot tA) (eNot fA) := by
  intro B F io σ H ρ b ρ' Q c e k
  obtain ⟨p, e1, e⟩ := Option.map_eq_some_iff.mp e
  cases e
  exact ha B F io σ H ρ p.1 p.2 _ c e1 fun F1 H1 g1 c1 => k F1 H1 g1 c1
theorem dw_and1 (ha : DT X a tA fA) : DW X (.BoolOp .And [a] pos) tA fA := ⟨pw_and1 ha.pe, ha.se⟩
theorem dw_or1 (ha : DT X a tA fA) : DW X (.BoolOp .Or [a] pos) tA fA := ⟨pw_or1 ha.pe, ha.se⟩
theorem dw_and (ha : DT X a tA fA) (hb : DW X (.BoolOp .And (b :: rest) pos) tB' fB) : DW X (.BoolOp .And (a :: b :: rest) pos) (tAnd tA tB') (eAnd fA fB) := ⟨pw_and ha.pe hb.pe, st_and ha.se hb.se⟩
theorem dw_or (ha : DT X a tA fA) (hb : DW X (.BoolOp .Or (b :: rest) pos) tB' fB) : DW X (.BoolOp .Or (a :: b :: rest) pos) (tOr tA tB') (eOr fA fB) := ⟨pw_or ha.pe hb.pe, st_or ha.se hb.se⟩
theorem dt_not (ha : DT X a tA fA) : DT X (.UnaryOp .Not a pos) (tNot tA) (eNot fA) := ⟨pt_not ha.pe, st_not ha.se⟩
/-- and, or, not as values, by truth -/
def eAndV (fa fb : FE) : FE := fun ρ => (fa ρ).bind fun p => (truD p.1).bind fun k => if k = true then fb p.2 else some p
def eOrV (fa fb : FE) : FE := fun ρ => (fa ρ).bind fun p => (truD p.1).bind fun k => if k = true then some p else fb p.2
def eNotV (fa : FE) : FE := fun ρ => (fa ρ).bind fun p => (truD p.1).map fun k => (.bool (!k), p.2)
theorem de_one {op} (h : DE X a ta fa) : DE X (.BoolOp op [a] pos) ta fa := ⟨pe_one h.pe, h.se⟩
theorem se_andV {K : PySem.W.Frag} (ha : SE K ta fa) (hb : SE K tb fb) : SE K (tAndT K ta tb) (eAndV fa fb) := by
  intro B F io σ H ρ d ρ' Q c e k
  obtain ⟨p, e1, e⟩ := Option.bind_eq_some_iff.mp e
  obtain ⟨z, e2, e⟩ := Option.bind_eq_some_iff.mp e
  refine ha B F io σ H ρ p.1 p.2 _ c e1 fun F1 H1 x g1 c1 d1 => ⟨z, tru_dp c1.frz d1 e2, ?_⟩
  by_cases hp : z = true
  · rw [if_pos hp] at e ⊢
    exact hb B F1 io σ H1 p.2 d ρ' Q c1 e fun F2 H2 v g2 c2 d2 => k F2 H2 v (g1.trans g2) c2 d2
  · rw [if_neg hp] at e ⊢
    cases e
    exact k F1 H1 x g1 c1 d1
theorem se_orV {K : PySem.W.Frag} (ha : SE K ta fa) (hb : SE K tb fb) : SE K (tOrT K ta tb) (eOrV fa fb) := by
  intro B F io σ H ρ d ρ' Q c e k
  obtain ⟨p, e1, e⟩ := Option.bind_eq_some_iff.mp e
  obtain ⟨z, e2, e⟩ := Option.bind_eq_some_iff.mp e
  refine ha B F io σ H ρ p.1 p.2 _ c e1 fun F1 H1 x g1 c1 d1 => ⟨z, tru_dp c1.frz d1 e2, ?_⟩
  by_cases hp : z = true
  · rw [if_pos hp] at e ⊢
    cases e
    exact k F1 H1 x g1 c1 d1
  · rw [if_neg hp] at e ⊢
    exact hb B F1 io σ H1 p.2 d ρ' Q c1 e fun F2 H2 v g2 c2 d2 => k F2 H2 v (g1.trans g2) c2 d2
theorem se_notV {K : PySem.W.Frag} (ha : SE K ta fa) : SE K (tNotT K ta) (eNotV fa) := by
  intro B F io σ H ρ d ρ' Q c e k
  obtain ⟨p, e1, e⟩ := Option.bind_eq_some_iff.mp e
  obtain ⟨z, e2, e⟩ := Option.map_eq_some_iff.mp e
  cases e
  exact ha B F io σ H ρ p.1 p.2 _ c e1 fun F1 H1 x g1 c1 d1 => ⟨z, tru_dp c1.frz d1 e2, k F1 H1 _ g1 c1 (.bl _)⟩
theorem de_and (ha : DE X a ta fa) (hb : DE X (.BoolOp .And (b :: rest) pos) tb fb) : DE X (.BoolOp .And (a :: b :: rest) pos) (tAndT X.K ta tb) (eAndV fa fb) := ⟨pe_andT ha.pe hb.pe, se_andV ha.se hb.se⟩
theorem de_or (ha : DE X a ta fa) (hb : DE X (.BoolOp .Or (b :: rest) pos) tb fb) : DE X (.BoolOp .Or (a :: b :: rest) pos) (tOrT X.K ta tb) (eOrV fa fb) := ⟨pe_orT ha.pe hb.pe, se_orV ha.se hb.se⟩
theorem de_not (ha : DE X a ta fa) : DE X (.UnaryOp .Not a pos) (tNotT X.K ta) (eNotV fa) := ⟨pe_notT ha.pe, se_notV ha.se⟩
def eIf (fc : FT) (fa fb : FE) : FE := fun ρ => (fc ρ).bind fun p => if p.1 = true then fa p.2 else fb p.2
def eIfN (fc : FT) (fa fb : FN) : FN := fun ρ => (fc ρ).bind fun p => if p.1 = true then fa p.2 else fb p.2
theorem de_if (hc : DT X c tA fA) (ha : DE X a ta fa) (hb : DE X b tb fb) : DE X (.IfExp c a b pos) (tIf tA ta tb) (eIf fA fa fb) := by
  refine ⟨pe_ifExp hc.pe ha.pe hb.pe, ?_⟩
  intro B F io σ H ρ d ρ' Q c e k
  obtain ⟨p, e1, e⟩ := Option.bind_eq_some_iff.mp e
  refine hc.se B F io σ H ρ p.1 p.2 _ c e1 fun F1 H1 g1 c1 => ?_
  by_cases hp : p.1 = true
  · rw [if_pos hp] at e ⊢
    exact ha.se B F1 io σ H1 p.2 d ρ' Q c1 e fun F2 H2 v g2 c2 d2 => k F2 H2 v (g1.trans g2) c2 d2
  · rw [if_neg hp] at e ⊢
    exact hb.se B F1 io σ H1 p.2 d ρ' Q c1 e fun F2 H2 v g2 c2 d2 => k F2 H2 v (g1.trans g2) c2 d2
theorem dn_if {fa fb : FN} (hc : DT X c tA fA) (ha : DN X a ta fa) (hb : DN X b tb fb) : DN X (.IfExp c a b pos) (tIf tA ta tb) (eIfN fA fa fb) := by
  refine ⟨pe_ifExp hc.pe ha.pe hb.pe, ?_⟩
  intro B F io σ H ρ d ρ' Q c e k
  obtain ⟨p, e1, e⟩ := Option.bind_eq_some_iff.mp e
  refine hc.se B F io σ H ρ p.1 p.2 _ c e1 fun F1 H1 g1 c1 => ?_
  by_cases hp : p.1 = true
  · rw [if_pos hp] at e ⊢
    exact ha.se B F1 io σ H1 p.2 d ρ' Q c1 e fun F2 H2 v o g2 c2 h1 h2 h3 h4 h5 => k F2 H2 v o (g1.trans g2) c2 h1 h2 h3 h4 h5
  · rw [if_neg hp] at e ⊢
    exact hb.se B F1 io σ H1 p.2 d ρ' Q c1 e fun F2 H2 v o g2 c2 h1 h2 h3 h4 h5 => k F2 H2 v o (g1.trans g2) c2 h1 h2 h3 h4 h5
/-! ### argument lists, displays -/
def aNil : FA := fun ρ => some ([], ρ)
def aCons (f : FE) (g : FA) : FA := fun ρ => (f ρ).bind fun p => (g p.2).map fun q => (p.1 :: q.1, q.2)
theorem da_nil : DA X [] tNil aNil := ⟨pa_nil, fun B F io σ H ρ ds ρ' Q c e k => by
  cases e
  exact k F H [] (Gr.refl _ _) c .nil⟩
theorem da_cons {e : Expr} {es : List Expr} {t : TA} {g : FA} (ha : DE X e ta fa) (hr : DA X es t g) (hs : starEach (e :: es) X.env = (false, eval e X.env) :: starEach es X.env := by rfl) : DA X (e :: es) (tCons ta t) (aCons fa g) :=
  ⟨pa_cons ha.pe hr.pe hs, fun B F io σ H ρ ds ρ' Q c h k => by
    obtain ⟨p, e1, h⟩ := Option.bind_eq_some_iff.mp h
    obtain ⟨q, e2, h⟩ := Option.map_eq_some_iff.mp h
    cases h
    refine ha.se B F io σ H ρ p.1 p.2 _ c e1 fun F1 H1 x g1 c1 d1 => ?_
    exact hr.se B F1 io σ H1 p.2 q.1 q.2 _ c1 e2 fun F2 H2 xs g2 c2 d2 => k F2 H2 (x :: xs) (g1.trans g2) c2 (.cons (dp_mono g2.sub d1) d2)⟩
def eTup (g : FA) : FE := fun ρ => (g ρ).bind fun p => if p.1.length ≤ sizeLine then some (.tuple p.1, p.2) else none
def eLst (g : FA) : FN := fun ρ => (g ρ).bind fun p => if p.1.length ≤ sizeLine then some (.ol p.1, p.2) else none
theorem de_tup {es : List Expr} {t : TA} {g : FA} {x1} (h : DA X es t g) : DE X (.Tuple es x1 pos) (tTup t) (eTup g) := by
  refine ⟨pe_tup h.pe, ?_⟩
  intro B F io σ H ρ d ρ' Q c e k
  obtain ⟨p, e1, e⟩ := Option.bind_eq_some_iff.mp e
  by_cases hz : p.1.length ≤ sizeLine
  · rw [if_pos hz] at e
    cases e
    refine h.se B F io σ H ρ p.1 p.2 _ c e1 fun F1 H1 xs g1 c1 d1 => ⟨by rw [d1.length]; exact hz, fun a na => ?_⟩
    have al := Al.laid (o := .tup xs) c1.frz na
    exact k _ _ _ (g1.trans (al.gr c1.base)) (c1.al al) (.tup (.inl (.inl upd_same)) (dpAll_mono al.ff d1))
  · rw [if_neg hz] at e
    cases e
theorem dn_lst {es : List Expr} {t : TA} {g : FA} (h : DA X es t g) : DN X (.List es pos) (tLst t) (eLst g) := by
  refine ⟨pe_lst h.pe, ?_⟩
  intro B F io σ H ρ d ρ' Q c e k
  obtain ⟨p, e1, e⟩ := Option.bind_eq_some_iff.mp e
  by_cases hz : p.1.length ≤ sizeLine
  · rw [if_pos hz] at e
    cases e
    refine h.se B F io σ H ρ p.1 p.2 _ c e1 fun F1 H1 xs g1 c1 d1 => ⟨by rw [d1.length]; exact hz, fun a na => ?_⟩
    have al := Al.laidH (o := .lst xs) c1.frz na
    exact k _ _ a (.lst xs) (g1.trans (al.gr c1.base)) (c1.al al) upd_same d1 (c1.frz.free na) (c1.base.free na) (c1.fresh_notOwned na)
  · rw [if_neg hz] at e
    cases e
/-- a new list, frozen at once -/
def eFrz (f : FN) : FE := fun ρ => (f ρ).bind fun p => (frzC p.1).map fun d => (d, p.2)
theorem se_frz {K : PySem.W.Frag} {t : TE} {f : FN} (h : SN K t f) : SE K t (eFrz f) := by
  intro B F io σ H ρ d ρ' Q c e k
  obtain ⟨p, e1, e⟩ := Option.bind_eq_some_iff.mp e
  obtain ⟨z, e2, e⟩ := Option.map_eq_some_iff.mp e
  cases e
  refine h B F io σ H ρ p.1 p.2 _ c e1 fun F1 H1 a o g1 c1 ha ob fa ba no => ?_
  cases hp : p.1 with
  | ol ds =>
    rw [hp] at e2 ob
    cases e2
    cases o with
    | lst vs =>
      have s1 : Same F1 (upd F1 a (.lst vs)) := same_upd fa
      have gr : Gr B F1 (upd F1 a (.lst vs)) := ⟨s1, fun b x e => by
        by_cases q : b = a
        · subst q; exact .inr ba
        · rw [upd_ne q] at e; exact .inl e⟩
      refine k (upd F1 a (.lst vs)) H1 _ (g1.trans gr) ⟨c1.len, c1.base, fun b x e => ?_, fun i u hu => ?_, c1.sep, c1.io⟩ (.lst (.inl (.inl upd_same)) (dpAll_mono s1 ob))
      · by_cases q : b = a
        · subst q; rw [upd_same] at e; rw [ha]; exact e
        · rw [upd_ne q] at e; exact c1.frz b x e
      · obtain ⟨x, hx, ok⟩ := c1.cell i u hu
        refine ⟨x, hx, ?_⟩
        by_cases ho : isOwn u = true
        · rw [cellOk_own ho] at ok ⊢
          obtain ⟨q, w, z1, z2, z3, z4, z5⟩ := ok
          subst z1
          refine ⟨q, w, rfl, z2, ob_mono s1 z3, ?_, z5⟩
          rw [upd_ne (fun z => no i u hu ho (by rw [hx, z]))]
          exact z4
        · cases u with
          | dead => trivial
          | sh d => obtain ⟨v, z1, z2⟩ := ok; exact ⟨v, z1, dp_mono s1 z2⟩
          | fd tk kvs => obtain ⟨p, ob, u, z1, z2, z3⟩ := ok; exact ⟨p, ob, u, z1, s1 _ _ z2, dictOb_mono s1 z3⟩
          | _ => exact absurd rfl ho
    | _ => exact False.elim ob
  | _ => rw [hp] at e2; cases e2
theorem DN.de {f : FN} (h : DN X a ta f) : DE X a ta (eFrz f) := ⟨h.pe, se_frz h.se⟩
/-! ### calls of built-in things -/
def eCB (g : List D → Option D) (fa : FA) : FE := fun ρ => (fa ρ).bind fun p => (g p.1).map fun d => (d, p.2)
def eCBN (g : List D → Option Cell) (fa : FA) : FN := fun ρ => (fa ρ).bind fun p => (g p.1).map fun d => (d, p.2)
theorem se_cb {K : PySem.W.Frag} {r : List V → Hp → VK → Prop} {g : List D → Option D} {t : TA} {fa : FA} (hg : OpA K r g) (ha : SA K t fa) : SE K (tCB r t) (eCB g fa) := by
  intro B F io σ H ρ d ρ' Q c h k
  obtain ⟨p, e1, h⟩ := Option.bind_eq_some_iff.mp h
  obtain ⟨z, e3, h⟩ := Option.map_eq_some_iff.mp h
  cases h
  refine ha B F io σ H ρ p.1 p.2 _ c e1 fun F1 H1 xs g1 c1 d1 => ?_
  exact hg F1 H1 xs p.1 d Q c1.frz d1 e3 fun F3 H3 v al d3 => k F3 H3 v (g1.trans (al.gr c1.base)) (c1.al al) d3
theorem se_cbN {K : PySem.W.Frag} {r : List V → Hp → VK → Prop} {g : List D → Option Cell} {t : TA} {fa : FA} (hg : OpAN K r g) (ha : SA K t fa) : SN K (tCB r t) (eCBN g fa) := by
  intro B F io σ H ρ d ρ' Q c h k
  obtain ⟨p, e1, h⟩ := Option.bind_eq_some_iff.mp h
  obtain ⟨z, e3, h⟩ := Option.map_eq_some_iff.mp h
  cases h
  refine ha B F io σ H ρ p.1 p.2 _ c e1 fun F1 H1 xs g1 c1 d1 => ?_
  exact hg F1 H1 xs p.1 d Q c1.frz d1 e3 fun F3 H3 a o al ha ob fa na => k F3 H3 a o (g1.trans (al.gr c1.base)) (c1.al al) ha ob fa (c1.base.free na) (c1.fresh_notOwned na)
variable {e : Expr} {es : List Expr} {t : TA} {fl : FA} {x : Str} {p : Pos} {r : List V → Hp → VK → Prop} {id T : String}
theorem de_callB {g : List D → Option D} (hc : CallR X (.builtin id) r) (hg' : OpA X.K r g) (hm : X.mg x = none) (ha : DA X (e :: es) t fl) (hv : bootBuiltins x = some (.builtin id) := by decide +kernel) (hg : Gl X x := by rfl) (hn : x ≠ "__name__" := by decide) (hdb : (x == ("__debug__" : Str)) = false := by decide)
    (he : starEach (e :: es) X.env = (false, eval e X.env) :: starEach es X.env := by rfl) (hpl : (backTo pos (starEach es X.env)).any (·.1) = false := by rfl) : DE X (.Call (.Name x p) (e :: es) [] pos) (tCB r t) (eCB g fl) :=
  ⟨pe_callB hc hg hm hv ha.pe hn hdb he hpl, se_cb hg' ha.se⟩
theorem dn_callB {g : List D → Option Cell} (hc : CallR X (.builtin id) r) (hg' : OpAN X.K r g) (hm : X.mg x = none) (ha : DA X (e :: es) t fl) (hv : bootBuiltins x = some (.builtin id) := by decide +kernel) (hg : Gl X x := by rfl) (hn : x ≠ "__name__" := by decide) (hdb : (x == ("__debug__" : Str)) = false := by decide)
    (he : starEach (e :: es) X.env = (false, eval e X.env) :: starEach es X.env := by rfl) (hpl : (backTo pos (starEach es X.env)).any (·.1) = false := by rfl) : DN X (.Call (.Name x p) (e :: es) [] pos) (tCB r t) (eCBN g fl) :=
  ⟨pe_callB hc hg hm hv ha.pe hn hdb he hpl, se_cbN hg' ha.se⟩
theorem de_callTy {g : List D → Option D} (hc : CallR X (.type T) r) (hg' : OpA X.K r g) (hm : X.mg x = none) (ha : DA X (e :: es) t fl) (hv : bootBuiltins x = some (.type T) := by decide +kernel) (hg : Gl X x := by rfl) (hn : x ≠ "__name__" := by decide) (hdb : (x == ("__debug__" : Str)) = false := by decide)
    (he : starEach (e :: es) X.env = (false, eval e X.env) :: starEach es X.env := by rfl) (hpl : (backTo pos (starEach es X.env)).any (·.1) = false := by rfl) : DE X (.Call (.Name x p) (e :: es) [] pos) (tCB r t) (eCB g fl) :=
  ⟨pe_callTy hc hg hm hv ha.pe hn hdb he hpl, se_cb hg' ha.se⟩
theorem dn_callTy {g : List D → Option Cell} (hc : CallR X (.type T) r) (hg' : OpAN X.K r g) (hm : X.mg x = none) (ha : DA X (e :: es) t fl) (hv : bootBuiltins x = some (.type T) := by decide +kernel) (hg : Gl X x := by rfl) (hn : x ≠ "__name__" := by decide) (hdb : (x == ("__debug__" : Str)) = false := by decide)
    (he : starEach (e :: es) X.env = (false, eval e X.env) :: starEach es X.env := by rfl) (hpl : (backTo pos (starEach es X.env)).any (·.1) = false := by rfl) : DN X (.Call (.Name x p) (e :: es) [] pos) (tCB r t) (eCBN g fl) :=
  ⟨pe_callTy hc hg hm hv ha.pe hn hdb he hpl, se_cbN hg' ha.se⟩
end
end L2.Pd

namespace L2.Pd
open PySem PySem.Spec PyProof.Rows
/-! ## Operations on values, as plain functions of data -/
def okD (d : D) : Bool := SeqAt.shaped d
/-! ### + - * // % ** -/
def dAdd : D → D → Option D
  | .int a, .int b => some (.int (a + b))
  | .str a, .str b => if a.length + b.length ≤ sizeLine then some (.str (a ++ b)) else none
  | .tuple a, .tuple b => if a.length + b.length ≤ sizeLine then some (.tuple (a ++ b)) else none
  | _, _ => none
def dSub : D → D → Option D
  | .int a, .int b => some (.int (a - b))
  | _, _ => none
def mulOk (i j : Int) : Bool := decide (i.natAbs < 2 ^ 64) || decide (j.natAbs < 2 ^ 64) || decide (i.natAbs.log2 + j.natAbs.log2 < 134217720)
def dMul : D → D → Option D
  | .int a, .int b => if mulOk a b = true then some (.int (a * b)) else none
  | _, _ => none
def dFdiv : D → D → Option D
  | .int a, .int b => if b ≠ 0 ∧ Builtin.divisionGoesByPylong a b = false then some (.int (a.fdiv b)) else none
  | _, _ => none
def dMod : D → D → Option D
  | .int a, .int b => if b ≠ 0 then some (.int (a.fmod b)) else none
  | _, _ => none
def dPow : D → D → Option D
  | .int a, .int b => if 0 ≤ b ∧ (Builtin.Int.intBits a : Int) * b ≤ 134217728 then some (.int (a ^ b.toNat)) else none
  | _, _ => none
def dNeg : D → Option D
  | .int a => some (.int (-a))
  | _ => none
theorem mulOk_ok {i j : Int} (h : mulOk i j = true) : IntMulOk i j := by
  unfold mulOk at h
  simp only [Bool.or_eq_true, decide_eq_true_eq] at h
  rcases h with (h | h) | h
  · exact .of_left (intBits_le_64 (by omega) (by omega))
  · exact .of_right (intBits_le_64 (by omega) (by omega))
  · have b : ∀ x : Int, Builtin.Int.intBits x ≤ x.natAbs.log2 + 1 := fun x => by
      unfold Builtin.Int.intBits
      split <;> omega
    have h1 := b i
    have h2 := b j
    have e : bitsLine = 134217728 := by decide
    unfold IntMulOk
    intro z
    rw [Bool.and_eq_true] at z
    have z2 := z.2
    unfold Builtin.Int.intTooBig at z2
    have z3 := of_decide_eq_true z2
    rw [e] at z3
    omega
section
variable {X : Cx}
abbrev rAddD (K : PySem.W.Frag) : R2 := fun x y H Q => rI0 (fun i j => .int (i + j)) x y H Q ∨ ((∃ i j, x = .str i ∧ y = .str j ∧ i.length + j.length ≤ sizeLine ∧ Q (.str (i ++ j)) H) ∨ rCatA K x y H Q)
theorem op_addD : OpR X (binaryOp .Add) (rAddD X.K) := op_add.or (op_add_str.or op_catA)
theorem v_add {K : PySem.W.Frag} : Op2 K (rAddD K) dAdd := by
  intro F H x y dx dy d Q s hx hy e k
  cases hx with
  | int a =>
    cases hy with
    | int b => cases e; exact .inl ⟨a, b, rfl, rfl, k F H _ (Al.refl s) (.int _)⟩
    | _ => cases e
  | str a =>
    cases hy with
    | str b =>
      have e : (if a.length + b.length ≤ sizeLine then some (PyData.str (a ++ b)) else none) = some d := e
      by_cases hz : a.length + b.length ≤ sizeLine
      · rw [if_pos hz] at e; cases e
        exact .inr (.inl ⟨a, b, rfl, rfl, hz, k F H _ (Al.refl s) (.str _)⟩)
      · rw [if_neg hz] at e; cases e
    | _ => cases e
  | @tup a xs ds q1 r1 =>
    cases hy with
    | @tup b ys es q2 r2 =>
      have e : (if ds.length + es.length ≤ sizeLine then some (PyData.tuple (ds ++ es)) else none) = some d := e
      by_cases hz : ds.length + es.length ≤ sizeLine
      · rw [if_pos hz] at e; cases e
        refine .inr (.inr ⟨a, b, xs, ys, rfl, rfl, sqT_mono s q1, sqT_mono s q2, by rw [r1.length, r2.length]; exact hz, fun h0 => ?_, fun _ h0 => ?_, fun _ _ p np => ?_⟩)
        · subst h0; cases r1
          exact k F H _ (Al.refl s) (by rw [List.nil_append]; exact .tup q2 r2)
        · subst h0; cases r2
          exact k F H _ (Al.refl s) (by rw [List.append_nil]; exact .tup q1 r1)
        · have al := Al.laid (o := .tup (xs ++ ys)) s np
          exact k _ _ _ al (.tup (.inl (.inl upd_same)) ((dpAll_mono al.ff r1).append (dpAll_mono al.ff r2)))
      · rw [if_neg hz] at e; cases e
    | _ => cases e
  | _ => cases e
theorem v_sub {K : PySem.W.Frag} : Op2 K (rI0 fun i j => .int (i - j)) dSub := by
  intro F H x y dx dy d Q s hx hy e k
  cases hx with
  | int a =>
    cases hy with
    | int b => cases e; exact ⟨a, b, rfl, rfl, k F H _ (Al.refl s) (.int _)⟩
    | _ => cases e
  | _ => cases e
theorem op_mulD : OpR X (binaryOp .Mult) (rI IntMulOk fun i j => .int (i * j)) := opI fun _ _ _ _ _ _ _ hc q => mul_int q hc
theorem v_mul {K : PySem.W.Frag} : Op2 K (rI IntMulOk fun i j => .int (i * j)) dMul := by
  intro F H x y dx dy d Q s hx hy e k
  cases hx with
  | int a =>
    cases hy with
    | int b =>
      have e : (if mulOk a b = true then some (PyData.int (a * b)) else none) = some d := e
      by_cases hz : mulOk a b = true
      · rw [if_pos hz] at e; cases e
        exact ⟨a, b, rfl, rfl, mulOk_ok hz, k F H _ (Al.refl s) (.int _)⟩
      · rw [if_neg hz] at e; cases e
    | _ => cases e
  | _ => cases e
def CFd (i j : Int) : Prop := j ≠ 0 ∧ Builtin.divisionGoesByPylong i j = false
theorem op_fdivD : OpR X (binaryOp .FloorDiv) (rI CFd fun i j => .int (i.fdiv j)) := opI fun _ _ _ _ _ _ _ hc q => floordiv_int hc.1 q (.inl hc.2)
theorem v_fdiv {K : PySem.W.Frag} : Op2 K (rI CFd fun i j => .int (i.fdiv j)) dFdiv := by
  intro F H x y dx dy d Q s hx hy e k
  cases hx with
  | int a =>
    cases hy with
    | int b =>
      have e : (if b ≠ 0 ∧ Builtin.divisionGoesByPylong a b = false then some (PyData.int (a.fdiv b)) else none) = some d := e
      by_cases hz : b ≠ 0 ∧ Builtin.divisionGoesByPylong a b = false
      · rw [if_pos hz] at e; cases e
        exact ⟨a, b, rfl, rfl, hz, k F H _ (Al.refl s) (.int _)⟩
      · rw [if_neg hz] at e; cases e
    | _ => cases e
  | _ => cases e
theorem v_mod {K : PySem.W.Frag} : Op2 K (rI (fun _ j => j ≠ 0) fun i j => .int (i.fmod j)) dMod := by
  intro F H x y dx dy d Q s hx hy e k
  cases hx with
  | int a =>
    cases hy with
    | int b =>
      have e : (if b ≠ 0 then some (PyData.int (a.fmod b)) else none) = some d := e
      by_cases hz : b ≠ 0
      · rw [if_pos hz] at e; cases e
        exact ⟨a, b, rfl, rfl, hz, k F H _ (Al.refl s) (.int _)⟩
      · rw [if_neg hz] at e; cases e
    | _ => cases e
  | _ => cases e
def CPowD (i j : Int) : Prop := 0 ≤ j ∧ (Builtin.Int.intBits i : Int) * j ≤ 134217728
theorem op_powD : OpR X (binaryOp .Pow) (rI CPowD fun i j => .int (i ^ j.toNat)) := opI fun _ _ _ _ _ _ _ hc q => pow_int hc.1 (by have := hc.2; omega) q
theorem v_pow {K : PySem.W.Frag} : Op2 K (rI CPowD fun i j => .int (i ^ j.toNat)) dPow := by
  intro F H x y dx dy d Q s hx hy e k
  cases hx with
  | int a =>
    cases hy with
    | int b =>
      have e : (if 0 ≤ b ∧ (Builtin.Int.intBits a : Int) * b ≤ 134217728 then some (PyData.int (a ^ b.toNat)) else none) = some d := e
      by_cases hz : 0 ≤ b ∧ (Builtin.Int.intBits a : Int) * b ≤ 134217728
      · rw [if_pos hz] at e; cases e
        exact ⟨a, b, rfl, rfl, hz, k F H _ (Al.refl s) (.int _)⟩
      · rw [if_neg hz] at e; cases e
    | _ => cases e
  | _ => cases e
theorem v_neg {K : PySem.W.Frag} : Op1 K (rU fun i => .int (-i)) dNeg := by
  intro F H x dx d Q s hx e k
  cases hx with
  | int a => cases e; exact ⟨a, rfl, k F H _ (Al.refl s) (.int _)⟩
  | _ => cases e
/-! ### comparisons -/
/-- an operation whose answer is a truth value told by the data -/
def rDat (K : PySem.W.Frag) (g : D → D → Option Bool) : R2 := fun x y H Q => ∃ d e b, Dp K H x d ∧ Dp K H y e ∧ g d e = some b ∧ Q (.bl b) H
theorem v_dat {K : PySem.W.Frag} {g : D → D → Option Bool} : Op2 K (rDat K g) (fun x y => (g x y).map .bool) := by
  intro F H x y dx dy d Q s hx hy e k
  obtain ⟨b, e1, e2⟩ := Option.map_eq_some_iff.mp e
  cases e2
  exact ⟨dx, dy, b, dp_mono s hx, dp_mono s hy, e1, k F H _ (Al.refl s) (.bl _)⟩
def bEq (a b : D) : Option Bool := if (okD a && okD b) = true then some (PyData.eqv a b) else none
def bNe (a b : D) : Option Bool := if (okD a && okD b) = true then some (!PyData.eqv a b) else none
def noNone : D → Bool
  | .none => false
  | _ => true
def cmpOk (a b : D) : Bool := okD a && PySem.W.alike a b && noNone a
def bLt (a b : D) : Option Bool := match a, b with
  | .int i, .int j => some (decide (i < j))
  | a, b => if cmpOk a b = true then some (PySem.W.dataLt a b) else none
def bGt (a b : D) : Option Bool := match a, b with
  | .int i, .int j => some (decide (j < i))
  | a, b => if cmpOk a b = true then some (PySem.W.dataLt b a) else none
def bLe (a b : D) : Option Bool := match a, b with
  | .int i, .int j => some (decide (i ≤ j))
  | a, b => if cmpOk a b = true then some (!PySem.W.dataLt b a) else none
def bGe (a b : D) : Option Bool := match a, b with
  | .int i, .int j => some (decide (j ≤ i))
  | a, b => if cmpOk a b = true then some (!PySem.W.dataLt a b) else none
theorem op_eqB (hu : X.A.units + 100 < cLine) : OpR X (compareOp .Eq) (rDat X.K bEq) := by
  intro pins s σ H x y v u Q I rx ry h
  obtain ⟨d, e, b, hd, he, hb, q⟩ := h
  unfold bEq at hb
  by_cases hz : (okD d && okD e) = true
  · rw [if_pos hz] at hb; cases hb
    rw [Bool.and_eq_true] at hz
    exact op_eqD (by omega) pins s σ H x y v u Q I rx ry ⟨d, e, hd, he, hz.1, hz.2, q⟩
  · rw [if_neg hz] at hb; cases hb
theorem op_neB (hu : X.A.units + 100 < cLine) : OpR X (compareOp .NotEq) (rDat X.K bNe) := by
  intro pins s σ H x y v u Q I rx ry h
  obtain ⟨d, e, b, hd, he, hb, q⟩ := h
  unfold bNe at hb
  by_cases hz : (okD d && okD e) = true
  · rw [if_pos hz] at hb; cases hb
    rw [Bool.and_eq_true] at hz
    exact op_neD (by omega) pins s σ H x y v u Q I rx ry ⟨d, e, hd, he, hz.1, hz.2, q⟩
  · rw [if_neg hz] at hb; cases hb
theorem noNone_ne {d : D} (h : noNone d = true) : d ≠ .none := fun e => by subst e; cases h
theorem cmp_room {A : Around} {d e : D} (h : okD d = true) (hu : A.units + 100 < cLine) : A.units + min d.depth e.depth < cLine := by
  have h1 := SeqAt.depth_of_shaped h
  have h2 : min d.depth e.depth ≤ d.depth := Nat.min_le_left _ _
  omega
theorem cmpOk_iff {a b : D} (h : cmpOk a b = true) : okD a = true ∧ PySem.W.alike a b = true ∧ a ≠ .none := by
  unfold cmpOk at h
  rw [Bool.and_eq_true, Bool.and_eq_true] at h
  exact ⟨h.1.1, h.1.2, noNone_ne h.2⟩
theorem cmp_case {g : D → D → Option Bool} {f : D → D → Bool} {p : Int → Int → Bool} (hg : g = fun a b => match a, b with
    | .int i, .int j => some (p i j)
    | a, b => if cmpOk a b = true then some (f a b) else none) {d e : D} {b : Bool} (h : g d e = some b) : (∃ i j, d = .int i ∧ e = .int j ∧ b = p i j) ∨ (cmpOk d e = true ∧ b = f d e) := by
  subst hg
  by_cases hz : cmpOk d e = true
  · cases d <;> first
      | (right; refine ⟨hz, ?_⟩; simp only [hz, if_true] at h; exact (Option.some.inj h).symm)
      | (cases e <;> first
          | (left; exact ⟨_, _, rfl, rfl, (Option.some.inj h).symm⟩)
          | (right; refine ⟨hz, ?_⟩; simp only [hz, if_true] at h; exact (Option.some.inj h).symm))
  · cases d <;> first
      | (simp only [hz, if_false] at h; cases h; done)
      | (cases e <;> first
          | (left; exact ⟨_, _, rfl, rfl, (Option.some.inj h).symm⟩)
          | (simp only [hz] at h; cases h; done))
theorem op_ltB (hu : X.A.units + 100 < cLine) : OpR X (compareOp .Lt) (rDat X.K bLt) := by
  intro pins s σ H x y v u Q I rx ry h
  obtain ⟨d, e, b, hd, he, hb, q⟩ := h
  rcases cmp_case (g := bLt) (f := PySem.W.dataLt) (p := fun i j => decide (i < j)) rfl hb with ⟨i, j, rfl, rfl, rfl⟩ | ⟨hz, rfl⟩
  · cases hd; cases he
    exact op_lt pins s σ H _ _ v u Q I rx ry ⟨i, j, rfl, rfl, q⟩
  · obtain ⟨z1, z2, z3⟩ := cmpOk_iff hz
    obtain ⟨as, r1⟩ := Dp.reads I d x v hd rx
    obtain ⟨bs, r2⟩ := Dp.reads I e y u he ry
    exact PySem.W.lt_data r1 r2 z2 z3 (cmp_room z1 hu) ⟨.bl _, H, I, rfl, q⟩
theorem op_gtB (hu : X.A.units + 100 < cLine) : OpR X (compareOp .Gt) (rDat X.K bGt) := by
  intro pins s σ H x y v u Q I rx ry h
  obtain ⟨d, e, b, hd, he, hb, q⟩ := h
  rcases cmp_case (g := bGt) (f := fun a b => PySem.W.dataLt b a) (p := fun i j => decide (j < i)) rfl hb with ⟨i, j, rfl, rfl, rfl⟩ | ⟨hz, rfl⟩
  · cases hd; cases he
    exact op_gt pins s σ H _ _ v u Q I rx ry ⟨i, j, rfl, rfl, q⟩
  · obtain ⟨z1, z2, z3⟩ := cmpOk_iff hz
    obtain ⟨as, r1⟩ := Dp.reads I d x v hd rx
    obtain ⟨bs, r2⟩ := Dp.reads I e y u he ry
    exact PySem.W.gt_data r1 r2 z2 z3 (cmp_room z1 hu) ⟨.bl _, H, I, rfl, q⟩
theorem op_leB (hu : X.A.units + 100 < cLine) : OpR X (compareOp .LtE) (rDat X.K bLe) := by
  intro pins s σ H x y v u Q I rx ry h
  obtain ⟨d, e, b, hd, he, hb, q⟩ := h
  rcases cmp_case (g := bLe) (f := fun a b => !PySem.W.dataLt b a) (p := fun i j => decide (i ≤ j)) rfl hb with ⟨i, j, rfl, rfl, rfl⟩ | ⟨hz, rfl⟩
  · cases hd; cases he
    exact op_le pins s σ H _ _ v u Q I rx ry ⟨i, j, rfl, rfl, q⟩
  · obtain ⟨z1, z2, z3⟩ := cmpOk_iff hz
    obtain ⟨as, r1⟩ := Dp.reads I d x v hd rx
    obtain ⟨bs, r2⟩ := Dp.reads I e y u he ry
    exact PySem.W.le_data r1 r2 z2 z3 (cmp_room z1 hu) ⟨.bl _, H, I, rfl, q⟩
theorem op_geB (hu : X.A.units + 100 < cLine) : OpR X (compareOp .GtE) (rDat X.K bGe) := by
  intro pins s σ H x y v u Q I rx ry h
  obtain ⟨d, e, b, hd, he, hb, q⟩ := h
  rcases cmp_case (g := bGe) (f := fun a b => !PySem.W.dataLt a b) (p := fun i j => decide (j ≤ i)) rfl hb with ⟨i, j, rfl, rfl, rfl⟩ | ⟨hz, rfl⟩
  · cases hd; cases he
    exact op_ge pins s σ H _ _ v u Q I rx ry ⟨i, j, rfl, rfl, q⟩
  · obtain ⟨z1, z2, z3⟩ := cmpOk_iff hz
    obtain ⟨as, r1⟩ := Dp.reads I d x v hd rx
    obtain ⟨bs, r2⟩ := Dp.reads I e y u he ry
    exact PySem.W.ge_data r1 r2 z2 z3 (cmp_room z1 hu) ⟨.bl _, H, I, rfl, q⟩
/-! ### in, not in -/
def bIn (x y : D) : Option Bool := match y with
  | .list ds => if (okD x && okD (.list ds)) = true then some (ds.any fun z => PyData.eqv z x) else none
  | .tuple ds => if (okD x && okD (.tuple ds)) = true then some (ds.any fun z => PyData.eqv z x) else none
  | .str z => match x with
    | .str w => if w.length = 1 then some (decide (w.cps.getD 0 0 ∈ z.cps.toList)) else some (!(Builtin.Str.occurrences z w 0 z.length 1).isEmpty)
    | _ => none
  | _ => none
def bNotIn (x y : D) : Option Bool := (bIn x y).map not
theorem str_one {w : Str} (h : w.length = 1) : w = ⟨#[w.cps.getD 0 0]⟩ := by
  obtain ⟨⟨l⟩⟩ := w
  have h : l.length = 1 := h
  match l, h with
  | [a], _ => rfl
theorem op_inB (hu : X.A.units + 100 < cLine) : OpR X (compareOp .In) (rDat X.K bIn) := by
  intro pins s σ H x y v u Q I rx ry h
  obtain ⟨d, e, b, hd, he, hb, q⟩ := h
  cases he with
  | @lst a vs ds q1 r1 =>
    have hb : (if (okD d && okD (.list ds)) = true then some (ds.any fun z => PyData.eqv z d) else none) = some b := hb
    by_cases hz : (okD d && okD (.list ds)) = true
    · rw [if_pos hz] at hb; cases hb
      rw [Bool.and_eq_true] at hz
      exact op_inD (by omega) pins s σ H x _ v u Q I rx ry ⟨d, ds, hd, .lst q1 r1, hz.1, hz.2, q⟩
    · rw [if_neg hz] at hb; cases hb
  | @tup a vs ds q1 r1 =>
    have hb : (if (okD d && okD (.tuple ds)) = true then some (ds.any fun z => PyData.eqv z d) else none) = some b := hb
    by_cases hz : (okD d && okD (.tuple ds)) = true
    · rw [if_pos hz] at hb; cases hb
      rw [Bool.and_eq_true] at hz
      obtain ⟨as, z1⟩ := Dp.reads I d x v hd rx
      obtain ⟨bs, z2⟩ := Dp.reads I (.tuple ds) _ u (.tup q1 r1) ry
      exact SeqAt.in_tuple_reads z2 z1 (SeqAt.canLay_of_shaped hz.2) (SeqAt.canLay_of_shaped hz.1) (room_in_shaped hz.1 (by omega)) ⟨.bl _, H, I, rfl, q⟩
    · rw [if_neg hz] at hb; cases hb
  | str z =>
    cases hd with
    | str w =>
      have hb : (if w.length = 1 then some (decide (w.cps.getD 0 0 ∈ z.cps.toList)) else some (!(Builtin.Str.occurrences z w 0 z.length 1).isEmpty)) = some b := hb
      by_cases hz : w.length = 1
      · rw [if_pos hz] at hb; cases hb
        rw [str_one hz] at rx
        exact op_in_sign pins s σ H _ _ v u Q I rx ry ⟨_, z, rfl, rfl, q⟩
      · rw [if_neg hz] at hb; cases hb
        exact op_in_str pins s σ H _ _ v u Q I rx ry ⟨_, z, rfl, rfl, q⟩
    | _ => cases hb
  | _ => cases hb
theorem op_notInB (hu : X.A.units + 100 < cLine) : OpR X (compareOp .NotIn) (rDat X.K bNotIn) := by
  intro pins s σ H x y v u Q I rx ry h
  obtain ⟨d, e, b0, hd, he, hb0, q⟩ := h
  obtain ⟨b, hb, eb⟩ := Option.map_eq_some_iff.mp hb0
  subst eb
  cases he with
  | @lst a vs ds q1 r1 =>
    have hb : (if (okD d && okD (.list ds)) = true then some (ds.any fun z => PyData.eqv z d) else none) = some b := hb
    by_cases hz : (okD d && okD (.list ds)) = true
    · rw [if_pos hz] at hb; cases hb
      rw [Bool.and_eq_true] at hz
      exact op_notInD (by omega) pins s σ H x _ v u Q I rx ry ⟨d, ds, hd, .lst q1 r1, hz.1, hz.2, q⟩
    · rw [if_neg hz] at hb; cases hb
  | @tup a vs ds q1 r1 =>
    have hb : (if (okD d && okD (.tuple ds)) = true then some (ds.any fun z => PyData.eqv z d) else none) = some b := hb
    by_cases hz : (okD d && okD (.tuple ds)) = true
    · rw [if_pos hz] at hb; cases hb
      rw [Bool.and_eq_true] at hz
      obtain ⟨as, z1⟩ := Dp.reads I d x v hd rx
      obtain ⟨bs, z2⟩ := Dp.reads I (.tuple ds) _ u (.tup q1 r1) ry
      exact SeqAt.notIn_tuple_reads z2 z1 (SeqAt.canLay_of_shaped hz.2) (SeqAt.canLay_of_shaped hz.1) (room_in_shaped hz.1 (by omega)) ⟨.bl _, H, I, rfl, q⟩
    · rw [if_neg hz] at hb; cases hb
  | str z =>
    cases hd with
    | str w =>
      have hb : (if w.length = 1 then some (decide (w.cps.getD 0 0 ∈ z.cps.toList)) else some (!(Builtin.Str.occurrences z w 0 z.length 1).isEmpty)) = some b := hb
      by_cases hz : w.length = 1
      · rw [if_pos hz] at hb; cases hb
        rw [str_one hz] at rx
        exact op_notIn_sign pins s σ H _ _ v u Q I rx ry ⟨_, z, rfl, rfl, q⟩
      · rw [if_neg hz] at hb; cases hb
        exact op_notin_str pins s σ H _ _ v u Q I rx ry ⟨_, z, rfl, rfl, q⟩
    | _ => cases hb
  | _ => cases hb
/-! ### is None, is not None -/
def isNone : D → Bool
  | .none => true
  | _ => false
def bIsN (x y : D) : Option Bool := if isNone y = true then some (isNone x) else none
def bNotN (x y : D) : Option Bool := if isNone y = true then some (!isNone x) else none
theorem isNone_dp {K : PySem.W.Frag} {H : Hp} {v : V} {d : D} (h : Dp K H v d) : decide (v = .non) = isNone d := by
  cases h <;> first | rfl | exact decide_eq_false (fun z => nomatch z)
theorem op_isNB : OpR X (compareOp .Is) (rDat X.K bIsN) := by
  intro pins s σ H x y v u Q I rx ry h
  obtain ⟨d, e, b, hd, he, hb, q⟩ := h
  unfold bIsN at hb
  by_cases hz : isNone e = true
  · rw [if_pos hz] at hb; cases hb
    cases he <;> first | cases hz | skip
    exact op_isN pins s σ H x _ v u Q I rx ry ⟨rfl, by rw [isNone_dp hd]; exact q⟩
  · rw [if_neg hz] at hb; cases hb
theorem op_notNB : OpR X (compareOp .IsNot) (rDat X.K bNotN) := by
  intro pins s σ H x y v u Q I rx ry h
  obtain ⟨d, e, b, hd, he, hb, q⟩ := h
  unfold bNotN at hb
  by_cases hz : isNone e = true
  · rw [if_pos hz] at hb; cases hb
    cases he <;> first | cases hz | skip
    exact op_notN pins s σ H x _ v u Q I rx ry ⟨rfl, by rw [isNone_dp hd]; exact q⟩
  · rw [if_neg hz] at hb; cases hb
/-! ### items, slices -/
def dIx : D → D → Option D
  | .list ds, .int i => atI ds i
  | .tuple ds, .int i => atI ds i
  | .str z, .int i => if z.length ≤ sizeLine then (atI z.cps.toList i).map fun c => .str ⟨#[c]⟩ else none
  | _, _ => none
theorem atI_dp {K : PySem.W.Frag} {F : Hp} {vs : List V} {ds : List D} {i : Int} {d : D} (h : DpAll K F vs ds) (e : atI ds i = some d) : ∃ v, atI vs i = some v ∧ Dp K F v d := by
  unfold atI at e ⊢
  rw [h.length]
  cases q : ixN ds.length i with
  | none => rw [q] at e; cases e
  | some j => rw [q] at e; exact h.get' e
theorem v_ix {K : PySem.W.Frag} : Op2 K (rIx K) dIx := by
  intro F H x y dx dy d Q s hx hy e k
  cases hx with
  | @lst a vs ds q1 r1 =>
    cases hy with
    | int i =>
      obtain ⟨v, e1, e2⟩ := atI_dp r1 e
      exact .inl ⟨a, vs, i, v, rfl, rfl, s.seq q1, e1, k F H v (Al.refl s) e2⟩
    | _ => cases e
  | @tup a vs ds q1 r1 =>
    cases hy with
    | int i =>
      obtain ⟨v, e1, e2⟩ := atI_dp r1 e
      exact .inr (.inl ⟨a, vs, i, v, rfl, rfl, sqT_mono s q1, e1, k F H v (Al.refl s) e2⟩)
    | _ => cases e
  | str z =>
    cases hy with
    | int i =>
      have e : (if z.length ≤ sizeLine then (atI z.cps.toList i).map fun c => PyData.str ⟨#[c]⟩ else none) = some d := e
      by_cases hz : z.length ≤ sizeLine
      · rw [if_pos hz] at e
        obtain ⟨c, e1, e2⟩ := Option.map_eq_some_iff.mp e
        cases e2
        exact .inr (.inr ⟨z, i, c, rfl, rfl, hz, e1, k F H _ (Al.refl s) (.str _)⟩)
      · rw [if_neg hz] at e; cases e
    | _ => cases e
  | _ => cases e
variable {a b : Expr} {ta tb : TE} {fa fb : FE} {pos : Pos}
theorem de_ix (ha : DE X a ta fa) (hb : DE X b tb fb) (hs : PlainIx b := by exact fun _ _ => rfl) : DE X (.Subscript a b pos) (tOp (rIx X.K) ta tb) (eBin dIx fa fb) :=
  ⟨pe_ix ix_seq ha.pe hb.pe hs, se_bin v_ix ha.se hb.se⟩
/-- a slice's bound -/
abbrev FO := En → Option (Option Int × En)
def SO (K : PySem.W.Frag) (t : TO) (f : FO) : Prop := ∀ (B F : Hp) (io : List (Nat × Addr)) (σ : St) (H : Hp) (ρ : En) (o : Option Int) (ρ' : En) (Q : Option Int → Hp → Prop), Con K B F io σ H ρ → f ρ = some (o, ρ') →
  (∀ F' H', Gr B F F' → Con K B F' io σ H' ρ' → Q o H') → t σ H Q
structure DO (X : Cx) (e : Option Expr) (t : TO) (f : FO) : Prop where
  pe : PO X e t
  se : SO X.K t f
def oNone : FO := fun ρ => some (none, ρ)
def intD : D → Option Int
  | .int i => some i
  | _ => none
def oSome (f : FE) : FO := fun ρ => (f ρ).bind fun p => (intD p.1).map fun i => (some i, p.2)
theorem do_none : DO X none tNoPart oNone := ⟨po_none, fun B F io σ H ρ o ρ' Q c e k => by cases e; exact k F H (Gr.refl _ _) c⟩
theorem do_some (ha : DE X a ta fa) : DO X (some a) (tPart ta) (oSome fa) := ⟨po_some ha.pe, fun B F io σ H ρ o ρ' Q c e k => by
  obtain ⟨p, e1, e⟩ := Option.bind_eq_some_iff.mp e
  obtain ⟨z, e3, e⟩ := Option.map_eq_some_iff.mp e
  cases e
  refine ha.se B F io σ H ρ p.1 p.2 _ c e1 fun F1 H1 x g1 c1 d1 => ?_
  cases hp : p.1 <;> rw [hp] at e3 d1 <;> cases e3
  cases d1
  exact ⟨_, rfl, k F1 H1 g1 c1⟩⟩
def cutD (ds : List D) (lo hi : Option Int) : List D := (ds.drop (HT.sIx ds.length 0 lo)).take (HT.sIx ds.length ds.length hi - HT.sIx ds.length 0 lo)
theorem cut_dp {K : PySem.W.Frag} {F : Hp} {vs : List V} {ds : List D} (h : DpAll K F vs ds) (lo hi : Option Int) : DpAll K F (cutV vs lo hi) (cutD ds lo hi) := by
  unfold cutV cutD
  rw [h.length]
  exact (h.drop _).take _
def dSl (x : D) (lo hi : Option Int) : Option D := match x with
  | .tuple ds => some (.tuple (cutD ds lo hi))
  | .list ds => some (.list (cutD ds lo hi))
  | .str z => if z.length ≤ sizeLine then some (.str (cutS z lo hi)) else none
  | _ => none
def eSl (fa : FE) (fl fh : FO) : FE := fun ρ => (fa ρ).bind fun p => (fl p.2).bind fun l => (fh l.2).bind fun h => (dSl p.1 l.1 h.1).map fun d => (d, h.2)
def eSlN (fa : FE) (fl fh : FO) : FN := fun ρ => (fa ρ).bind fun p => (fl p.2).bind fun l => (fh l.2).bind fun h => match p.1 with
  | .list ds => some (.ol (cutD ds l.1 h.1), h.2)
  | _ => none
abbrev rSlD (K : PySem.W.Frag) : V → Option Int → Option Int → Hp → VK → Prop := fun x lo hi H Q => rSlL K x lo hi H Q ∨ (rSlA K x lo hi H Q ∨ rSlS x lo hi H Q)
theorem sl_D : SlR X (rSlD X.K) := sl_list.or (sl_tupA.or sl_str)
variable {lo hi : Option Expr} {tl th : TO} {fl fh : FO} {p2 : Pos}
theorem cut_whole {α : Type} (xs : List α) (lo hi : Option Int) (h : HT.sIx xs.length 0 lo = 0 ∧ HT.sIx xs.length xs.length hi = xs.length) : (xs.drop (HT.sIx xs.length 0 lo)).take (HT.sIx xs.length xs.length hi - HT.sIx xs.length 0 lo) = xs := by
  rw [h.1, h.2, List.drop_zero, Nat.sub_zero, List.take_length]
theorem de_slice (he : DE X a ta fa) (hl : DO X lo tl fl) (hu : DO X hi th fh) : DE X (.Subscript a (.Slice lo hi none p2) pos) (tSl (rSlD X.K) ta tl th) (eSl fa fl fh) := by
  refine ⟨pe_slice sl_D he.pe hl.pe hu.pe, ?_⟩
  intro B F io σ H ρ d ρ' Q c e k
  obtain ⟨p, e1, e⟩ := Option.bind_eq_some_iff.mp e
  obtain ⟨l, e2, e⟩ := Option.bind_eq_some_iff.mp e
  obtain ⟨h, e3, e⟩ := Option.bind_eq_some_iff.mp e
  obtain ⟨z, e4, e⟩ := Option.map_eq_some_iff.mp e
  cases e
  refine he.se B F io σ H ρ p.1 p.2 _ c e1 fun F1 H1 x g1 c1 d1 => ?_
  refine hl.se B F1 io σ H1 p.2 l.1 l.2 _ c1 e2 fun F2 H2 g2 c2 => ?_
  refine hu.se B F2 io σ H2 l.2 h.1 h.2 _ c2 e3 fun F3 H3 g3 c3 => ?_
  have d3 := dp_mono (g2.sub.trans g3.sub) d1
  have g := (g1.trans g2).trans g3
  cases hp : p.1 with
  | list ds =>
    rw [hp] at e4 d3
    cases e4
    cases d3 with
    | @lst a vs _ q1 r1 =>
      refine .inl ⟨a, vs, rfl, c3.frz.seq q1, fun n nn => ?_⟩
      have al := Al.laid (o := .lst (cutV vs l.1 h.1)) c3.frz nn
      exact k _ _ _ (g.trans (al.gr c3.base)) (c3.al al) (.lst (.inl (.inl upd_same)) (cut_dp (dpAll_mono al.ff r1) _ _))
  | tuple ds =>
    rw [hp] at e4 d3
    cases e4
    cases d3 with
    | @tup a vs _ q1 r1 =>
      refine .inr (.inl ⟨a, vs, rfl, sqT_mono c3.frz q1, fun hw => ?_, fun _ n nn => ?_⟩)
      · refine k _ _ _ g c3 ?_
        have e5 : cutD ds l.1 h.1 = ds := cut_whole ds _ _ (by rw [← r1.length]; exact hw)
        rw [e5]
        exact .tup q1 r1
      · have al := Al.laid (o := .tup (cutV vs l.1 h.1)) c3.frz nn
        exact k _ _ _ (g.trans (al.gr c3.base)) (c3.al al) (.tup (.inl (.inl upd_same)) (cut_dp (dpAll_mono al.ff r1) _ _))
  | str z =>
    rw [hp] at e4 d3
    have e4 : (if z.length ≤ sizeLine then some (PyData.str (cutS z l.1 h.1)) else none) = some d := e4
    by_cases hz : z.length ≤ sizeLine
    · rw [if_pos hz] at e4; cases e4
      cases d3
      exact .inr (.inr ⟨z, rfl, hz, k _ _ _ g c3 (.str _)⟩)
    · rw [if_neg hz] at e4; cases e4
  | _ => rw [hp] at e4; cases e4
theorem dn_slice (he : DE X a ta fa) (hl : DO X lo tl fl) (hu : DO X hi th fh) : DN X (.Subscript a (.Slice lo hi none p2) pos) (tSl (rSlL X.K) ta tl th) (eSlN fa fl fh) := by
  refine ⟨pe_slice sl_list he.pe hl.pe hu.pe, ?_⟩
  intro B F io σ H ρ d ρ' Q c e k
  obtain ⟨p, e1, e⟩ := Option.bind_eq_some_iff.mp e
  obtain ⟨l, e2, e⟩ := Option.bind_eq_some_iff.mp e
  obtain ⟨h, e3, e4⟩ := Option.bind_eq_some_iff.mp e
  refine he.se B F io σ H ρ p.1 p.2 _ c e1 fun F1 H1 x g1 c1 d1 => ?_
  refine hl.se B F1 io σ H1 p.2 l.1 l.2 _ c1 e2 fun F2 H2 g2 c2 => ?_
  refine hu.se B F2 io σ H2 l.2 h.1 h.2 _ c2 e3 fun F3 H3 g3 c3 => ?_
  have d3 := dp_mono (g2.sub.trans g3.sub) d1
  have g := (g1.trans g2).trans g3
  cases hp : p.1 with
  | list ds =>
    rw [hp] at e4 d3
    cases e4
    cases d3 with
    | @lst a vs _ q1 r1 =>
      refine ⟨a, vs, rfl, c3.frz.seq q1, fun n nn => ?_⟩
      have al := Al.laidH (o := .lst (cutV vs l.1 h.1)) c3.frz nn
      exact k _ _ n _ (g.trans (al.gr c3.base)) (c3.al al) upd_same (cut_dp r1 _ _) (c3.frz.free nn) (c3.base.free nn) (c3.fresh_notOwned nn)
  | _ => rw [hp] at e4; cases e4
end
end L2.Pd

namespace L2.Pd
open PySem PySem.Spec PyProof.Rows
/-! ## Calls of built-in functions, as plain functions of data -/
/-- a call whose answer is told by the data, flat -/
def rDatA (K : PySem.W.Frag) (g : List D → Option D) : List V → Hp → VK → Prop := fun xs H Q => ∃ ds d, DpAll K H xs ds ∧ g ds = some d ∧ ∀ v, Dp K H v d → Q v H
def rDatN (K : PySem.W.Frag) (g : List D → Option (List D)) : List V → Hp → VK → Prop := fun xs H Q => ∃ ds es, DpAll K H xs ds ∧ g ds = some es ∧ ∀ p ws, H p = none → DpAll K H ws es → Q (.ref p) (upd H p (.lst ws))
/-- the answer's items are told by the items -/
theorem lift_dp {K : PySem.W.Frag} {F H : Hp} (s : Same F H) {vs : List V} {ds : List D} (h : DpAll K F vs ds) : DpAll K H vs ds := dpAll_mono s h
section
variable {X : Cx}
theorem one_of {K : PySem.W.Frag} {H : Hp} {xs : List V} {d : D} (h : DpAll K H xs [d]) : ∃ x, xs = [x] ∧ Dp K H x d := by
  cases h with
  | cons q r => cases r; exact ⟨_, rfl, q⟩
theorem two_of {K : PySem.W.Frag} {H : Hp} {xs : List V} {d e : D} (h : DpAll K H xs [d, e]) : ∃ x y, xs = [x, y] ∧ Dp K H x d ∧ Dp K H y e := by
  cases h with
  | cons q r =>
    cases r with
    | cons q' r' => cases r'; exact ⟨_, _, rfl, q, q'⟩
/-! ### len, int, abs, min, max of two, str -/
def cLen : List D → Option D
  | [.list ds] => some (.int ds.length)
  | [.tuple ds] => some (.int ds.length)
  | [.str z] => if z.length ≤ sizeLine then some (.int z.length) else none
  | _ => none
abbrev rLen (K : PySem.W.Frag) : List V → Hp → VK → Prop := fun xs H Q => ∃ x n, xs = [x] ∧ LenV K x H n ∧ Q (.int n) H
theorem a_len {K : PySem.W.Frag} : OpA K (rLen K) cLen := by
  intro F H xs ds d Q s hx e k
  match ds, hx, e with
  | [.list ds], hx, e =>
    obtain ⟨x, rfl, q⟩ := one_of hx
    cases q with
    | lst q1 r1 => cases e; exact ⟨_, _, rfl, .inl ⟨_, s.seq q1, rfl⟩, k F H _ (Al.refl s) (by rw [r1.length]; exact .int _)⟩
  | [.tuple ds], hx, e =>
    obtain ⟨x, rfl, q⟩ := one_of hx
    cases q with
    | tup q1 r1 => cases e; exact ⟨_, _, rfl, .inr ⟨_, sqT_mono s q1, rfl⟩, k F H _ (Al.refl s) (by rw [r1.length]; exact .int _)⟩
  | [.str z], hx, e =>
    obtain ⟨x, rfl, q⟩ := one_of hx
    cases q
    have e : (if z.length ≤ sizeLine then some (PyData.int z.length) else none) = some d := e
    by_cases hz : z.length ≤ sizeLine
    · rw [if_pos hz] at e; cases e
      exact ⟨_, _, rfl, ⟨hz, rfl⟩, k F H _ (Al.refl s) (.int _)⟩
    · rw [if_neg hz] at e; cases e
def cInt : List D → Option D
  | [.int i] => some (.int i)
  | [.bool b] => some (.int (if b then 1 else 0))
  | [.str a] => if a.length ≤ 640 then (PySem.intText? a).map .int else none
  | _ => none
abbrev rIntC : List V → Hp → VK → Prop := fun xs H Q => ((∃ i, xs = [.int i] ∧ Q (.int i) H) ∨ ∃ k, xs = [.bl k] ∧ Q (.int (if k then 1 else 0)) H) ∨ (∃ a n, xs = [.str a] ∧ PySem.intText? a = some n ∧ a.length ≤ 640 ∧ Q (.int n) H)
theorem call_intD : CallR X (.type "int") rIntC := call_int1.or call_int_str
theorem a_int {K : PySem.W.Frag} : OpA K rIntC cInt := by
  intro F H xs ds d Q s hx e k
  match ds, hx, e with
  | [.int i], hx, e =>
    obtain ⟨x, rfl, q⟩ := one_of hx
    cases q; cases e
    exact .inl (.inl ⟨i, rfl, k F H _ (Al.refl s) (.int _)⟩)
  | [.bool b], hx, e =>
    obtain ⟨x, rfl, q⟩ := one_of hx
    cases q; cases e
    exact .inl (.inr ⟨b, rfl, k F H _ (Al.refl s) (.int _)⟩)
  | [.str a], hx, e =>
    obtain ⟨x, rfl, q⟩ := one_of hx
    cases q
    have e : (if a.length ≤ 640 then (PySem.intText? a).map PyData.int else none) = some d := e
    by_cases hz : a.length ≤ 640
    · rw [if_pos hz] at e
      obtain ⟨n, e1, e2⟩ := Option.map_eq_some_iff.mp e
      cases e2
      exact .inr ⟨a, n, rfl, e1, hz, k F H _ (Al.refl s) (.int _)⟩
    · rw [if_neg hz] at e; cases e
def cAbs : List D → Option D
  | [.int i] => some (.int (if i < 0 then -i else i))
  | _ => none
theorem a_abs {K : PySem.W.Frag} : OpA K (fun xs H Q => ∃ i, xs = [.int i] ∧ Q (.int (if i < 0 then -i else i)) H) cAbs := by
  intro F H xs ds d Q s hx e k
  match ds, hx, e with
  | [.int i], hx, e =>
    obtain ⟨x, rfl, q⟩ := one_of hx
    cases q; cases e
    exact ⟨i, rfl, k F H _ (Al.refl s) (.int _)⟩
def cMax2 : List D → Option D
  | [.int i, .int j] => some (.int (if j > i then j else i))
  | _ => none
def cMin2 : List D → Option D
  | [.int i, .int j] => some (.int (if j < i then j else i))
  | _ => none
theorem a_max2 {K : PySem.W.Frag} : OpA K (fun xs H Q => ∃ i j, xs = [.int i, .int j] ∧ Q (.int (if j > i then j else i)) H) cMax2 := by
  intro F H xs ds d Q s hx e k
  match ds, hx, e with
  | [.int i, .int j], hx, e =>
    obtain ⟨x, y, rfl, q, q'⟩ := two_of hx
    cases q; cases q'; cases e
    exact ⟨i, j, rfl, k F H _ (Al.refl s) (.int _)⟩
theorem a_min2 {K : PySem.W.Frag} : OpA K (fun xs H Q => ∃ i j, xs = [.int i, .int j] ∧ Q (.int (if j < i then j else i)) H) cMin2 := by
  intro F H xs ds d Q s hx e k
  match ds, hx, e with
  | [.int i, .int j], hx, e =>
    obtain ⟨x, y, rfl, q, q'⟩ := two_of hx
    cases q; cases q'; cases e
    exact ⟨i, j, rfl, k F H _ (Al.refl s) (.int _)⟩
def cStr : List D → Option D
  | [.int i] => if i.natAbs.log2 < 1920 then some (.str (toString i)) else none
  | _ => none
theorem a_str {K : PySem.W.Frag} : OpA K (fun xs H Q => ∃ i, xs = [.int i] ∧ i.natAbs.log2 < 1920 ∧ Q (.str (toString i)) H) cStr := by
  intro F H xs ds d Q s hx e k
  match ds, hx, e with
  | [.int i], hx, e =>
    obtain ⟨x, rfl, q⟩ := one_of hx
    cases q
    have e : (if i.natAbs.log2 < 1920 then some (PyData.str (toString i)) else none) = some d := e
    by_cases hz : i.natAbs.log2 < 1920
    · rw [if_pos hz] at e; cases e
      exact ⟨i, rfl, hz, k F H _ (Al.refl s) (.str _)⟩
    · rw [if_neg hz] at e; cases e
/-! ### sum, any, all -/
def intsD : List D → Option (List Int)
  | [] => some []
  | .int i :: r => (intsD r).map (i :: ·)
  | _ :: _ => none
def bolsD : List D → Option (List Bool)
  | [] => some []
  | .bool i :: r => (bolsD r).map (i :: ·)
  | _ :: _ => none
theorem intsD_map : ∀ ns : List Int, intsD (ns.map .int) = some ns
  | [] => rfl
  | n :: ns => by show (intsD (ns.map .int)).map _ = _; rw [intsD_map ns]; rfl
theorem bolsD_map : ∀ ns : List Bool, bolsD (ns.map .bool) = some ns
  | [] => rfl
  | n :: ns => by show (bolsD (ns.map .bool)).map _ = _; rw [bolsD_map ns]; rfl
theorem intsD_eq : ∀ {ds : List D} {ns : List Int}, intsD ds = some ns → ds = ns.map .int
  | [], _, e => by cases e; rfl
  | d :: ds, ns, e => by
    cases d <;> first | (cases e; done) | skip
    obtain ⟨m, e1, e2⟩ := Option.map_eq_some_iff.mp e
    subst e2
    rw [intsD_eq e1]; rfl
theorem bolsD_eq : ∀ {ds : List D} {ns : List Bool}, bolsD ds = some ns → ds = ns.map .bool
  | [], _, e => by cases e; rfl
  | d :: ds, ns, e => by
    cases d <;> first | (cases e; done) | skip
    obtain ⟨m, e1, e2⟩ := Option.map_eq_some_iff.mp e
    subst e2
    rw [bolsD_eq e1]; rfl
def cSum : List D → Option D
  | [.list ds] => (intsD ds).map fun ns => .int ns.sum
  | _ => none
def cAny : List D → Option D
  | [.list ds] => (bolsD ds).map fun bs => .bool (bs.any id)
  | _ => none
def cAll : List D → Option D
  | [.list ds] => (bolsD ds).map fun bs => .bool (bs.all id)
  | _ => none
theorem a_sum {K : PySem.W.Frag} : OpA K (rSum K) cSum := by
  intro F H xs ds d Q s hx e k
  match ds, hx, e with
  | [.list ds], hx, e =>
    obtain ⟨x, rfl, q⟩ := one_of hx
    obtain ⟨ns, e1, e2⟩ := Option.map_eq_some_iff.mp e
    cases e2
    have := intsD_eq e1; subst this
    cases q with
    | lst q1 r1 => have := dp_ints_inv r1; subst this; exact ⟨_, ns, rfl, s.seq q1, k F H _ (Al.refl s) (.int _)⟩
theorem a_any {K : PySem.W.Frag} : OpA K (rAny K) cAny := by
  intro F H xs ds d Q s hx e k
  match ds, hx, e with
  | [.list ds], hx, e =>
    obtain ⟨x, rfl, q⟩ := one_of hx
    obtain ⟨ns, e1, e2⟩ := Option.map_eq_some_iff.mp e
    cases e2
    have := bolsD_eq e1; subst this
    cases q with
    | lst q1 r1 => have := dp_bls_inv r1; subst this; exact ⟨_, ns, rfl, s.seq q1, k F H _ (Al.refl s) (.bl _)⟩
theorem a_all {K : PySem.W.Frag} : OpA K (rAll K) cAll := by
  intro F H xs ds d Q s hx e k
  match ds, hx, e with
  | [.list ds], hx, e =>
    obtain ⟨x, rfl, q⟩ := one_of hx
    obtain ⟨ns, e1, e2⟩ := Option.map_eq_some_iff.mp e
    cases e2
    have := bolsD_eq e1; subst this
    cases q with
    | lst q1 r1 => have := dp_bls_inv r1; subst this; exact ⟨_, ns, rfl, s.seq q1, k F H _ (Al.refl s) (.bl _)⟩
/-! ### tuple(x), list(x) -/
def cTuple : List D → Option D
  | [.list ds] => some (.tuple ds)
  | [.tuple ds] => some (.tuple ds)
  | _ => none
abbrev rTupC (K : PySem.W.Frag) : List V → Hp → VK → Prop := fun xs H Q => ∃ p ys, xs = [.ref p] ∧ ((SqL K H p ys ∧ ∀ l, H l = none → Q (.ref l) (upd H l (.tup ys))) ∨ (SqT K H p ys ∧ Q (.ref p) H))
theorem a_tuple {K : PySem.W.Frag} : OpA K (rTupC K) cTuple := by
  intro F H xs ds d Q s hx e k
  match ds, hx, e with
  | [.list ds], hx, e =>
    obtain ⟨x, rfl, q⟩ := one_of hx
    cases e
    cases q with
    | @lst a vs _ q1 r1 =>
      refine ⟨a, vs, rfl, .inl ⟨s.seq q1, fun l nl => ?_⟩⟩
      have al := Al.laid (o := .tup vs) s nl
      exact k _ _ _ al (.tup (.inl (.inl upd_same)) (dpAll_mono al.ff r1))
  | [.tuple ds], hx, e =>
    obtain ⟨x, rfl, q⟩ := one_of hx
    cases e
    cases q with
    | @tup a vs _ q1 r1 => exact ⟨a, vs, rfl, .inr ⟨sqT_mono s q1, k F H _ (Al.refl s) (.tup q1 r1)⟩⟩
def cList : List D → Option Cell
  | [.list ds] => some (.ol ds)
  | [.tuple ds] => some (.ol ds)
  | _ => none
abbrev rLstC (K : PySem.W.Frag) : List V → Hp → VK → Prop := fun xs H Q => ∃ p ys, xs = [.ref p] ∧ (SqL K H p ys ∨ SqT K H p ys) ∧ ∀ l, H l = none → Q (.ref l) (upd H l (.lst ys))
theorem a_list {K : PySem.W.Frag} : OpAN K (rLstC K) cList := by
  intro F H xs ds c Q s hx e k
  match ds, hx, e with
  | [.list ds], hx, e =>
    obtain ⟨x, rfl, q⟩ := one_of hx
    cases e
    cases q with
    | @lst a vs _ q1 r1 =>
      refine ⟨a, vs, rfl, .inl (s.seq q1), fun l nl => ?_⟩
      have al := Al.laidH (o := .lst vs) s nl
      exact k _ _ l _ al upd_same r1 (s.free nl) nl
  | [.tuple ds], hx, e =>
    obtain ⟨x, rfl, q⟩ := one_of hx
    cases e
    cases q with
    | @tup a vs _ q1 r1 =>
      refine ⟨a, vs, rfl, .inr (sqT_mono s q1), fun l nl => ?_⟩
      have al := Al.laidH (o := .lst vs) s nl
      exact k _ _ l _ al upd_same r1 (s.free nl) nl
/-! ### sorted, min, max of a list or tuple of alike data -/
def alikeB (ds : List D) : Bool := (ds.all fun x => ds.all fun y => PySem.W.alike x y) && ds.all noNone && ds.all okD
def nonEmptyT : D → Bool
  | .tuple (_ :: _) => true
  | _ => false
def notTup : D → Bool
  | .tuple _ => false
  | .none => false
  | _ => true
def sortB (ds : List D) : Bool := alikeB ds && (ds.all nonEmptyT || ds.all notTup)
def sortD (ds : List D) : List D := ds.mergeSort (PySem.W.dataLe false id)
theorem alikeB_all {ds : List D} (h : alikeB ds = true) : PySem.W.AllAlike ds ∧ (∀ d ∈ ds, d ≠ .none) ∧ ∀ d ∈ ds, okD d = true := by
  unfold alikeB at h
  rw [Bool.and_eq_true, Bool.and_eq_true] at h
  obtain ⟨⟨h1, h2⟩, h3⟩ := h
  refine ⟨fun d hd e he => ?_, fun d hd => noNone_ne (List.all_eq_true.mp h2 d hd), fun d hd => List.all_eq_true.mp h3 d hd⟩
  exact List.all_eq_true.mp (List.all_eq_true.mp h1 d hd) e he
theorem sortB_all {ds : List D} (h : sortB ds = true) : PySem.W.AllAlike ds ∧ PySem.W.Sortable ds ∧ ∀ d ∈ ds, okD d = true := by
  unfold sortB at h
  rw [Bool.and_eq_true, Bool.or_eq_true] at h
  obtain ⟨h1, h2⟩ := h
  obtain ⟨a, b, c⟩ := alikeB_all h1
  refine ⟨a, ?_, c⟩
  rcases h2 with h2 | h2
  · refine .inl fun d hd => ?_
    have := List.all_eq_true.mp h2 d hd
    cases d with
    | tuple xs =>
      cases xs with
      | nil => cases this
      | cons x r => exact ⟨x, r, rfl⟩
    | _ => cases this
  · refine .inr fun d hd => ?_
    have := List.all_eq_true.mp h2 d hd
    refine ⟨fun e => ?_, fun xs e => ?_⟩ <;> (subst e; cases this)
abbrev DpV (K : PySem.W.Frag) (H : Hp) (u : Value) (d : D) : Prop := ∃ v, RelV v u ∧ Dp K H v d
theorem each_dp {K : PySem.W.Frag} {H : Hp} : ∀ {vs : List V} {us : List Value} {ds : List D}, Vals vs us → DpAll K H vs ds → PySem.W.EachIs (DpV K H) us ds
  | _, _, [], r, h => by cases h; cases r; exact .nil
  | _, _, d :: ds, r, h => by
    cases h with
    | cons q t =>
      cases r with
      | cons r1 r2 => exact .cons ⟨_, r1, q⟩ (each_dp r2 t)
theorem dp_each {K : PySem.W.Frag} {H : Hp} : ∀ {us : List Value} {ds : List D}, PySem.W.EachIs (DpV K H) us ds → ∃ vs, Vals vs us ∧ DpAll K H vs ds
  | [], _, h => by cases h; exact ⟨[], .nil, .nil⟩
  | u :: us, _, h => by
    cases h with
    | cons q t =>
      obtain ⟨v, r, d⟩ := q
      obtain ⟨vs, r2, d2⟩ := dp_each t
      exact ⟨v :: vs, .cons r r2, .cons d d2⟩
theorem reads_each {pins : List (Addr × Obj)} {σ : St} {H : Hp} {s : Shared} (I : Inv X pins σ H s) : ∀ {vs : List V} {us : List Value} {ds : List D}, Vals vs us → DpAll X.K H vs ds → PySem.W.EachIs (fun v b => ∃ as, Reads s.heap v (id b) as) us ds
  | _, _, [], r, h => by cases h; cases r; exact .nil
  | _, _, d :: ds, r, h => by
    cases h with
    | cons q t =>
      cases r with
      | cons r1 r2 => exact .cons (Dp.reads I d _ _ q r1) (reads_each I r2 t)
def cSorted : List D → Option Cell
  | [.list ds] => if sortB ds = true then some (.ol (sortD ds)) else none
  | _ => none
def rSrt (K : PySem.W.Frag) : List V → Hp → VK → Prop := fun xs H Q => ∃ F a vs ds, Same F H ∧ xs = [.ref a] ∧ SqL K H a vs ∧ DpAll K F vs ds ∧ sortB ds = true ∧ ∀ p ws, H p = none → DpAll K F ws (sortD ds) → Q (.ref p) (upd H p (.lst ws))
theorem call_srt (hu : X.A.units + 100 < cLine) : CallR X (.builtin "sorted") (rSrt X.K) := by
  intro pins s σ H xs us Q I r h
  obtain ⟨F, a, vs, ds, sm, rfl, hq, hd, hs, q⟩ := h
  obtain ⟨u, rfl, rx⟩ := vals1 r
  cases rx
  obtain ⟨its, rv, pl, hz⟩ := I.list hq
  obtain ⟨al, sb, ok⟩ := sortB_all hs
  have hl : ds.length ≤ sizeLine := by rw [← hd.length]; exact hz
  refine PySem.W.sorted_data (enc := id) (R := DpV X.K F) pl.isList (each_dp rv hd) (reads_each I rv (dpAll_mono sm hd)) (by rw [List.map_id]; exact al) (by rw [List.map_id]; exact sb) hl (fun b hb => ?_) fun out ho eo => ?_
  · have := SeqAt.depth_of_shaped (ok b hb)
    show X.A.units + 2 + b.depth < cLine
    omega
  · obtain ⟨ws, r2, d2⟩ := dp_each eo
    obtain ⟨ep, he'⟩ := PyProof.Rows.sortedAll_at s.heap its (List.toArray out)
    have hlen : ws.length ≤ sizeLine := by rw [r2.length, ho]; exact hl
    exact ⟨.ref _, upd H (s.heap.objs.size + 1) (.lst ws), I.laid (t' := s.toks) (fun _ _ => PyProof.Rows.sortedAll_old) (Nat.le_succ _) ⟨hlen, out, ep, r2, he'⟩, rfl, q _ ws (I.hok.fresh (Nat.le_succ _)) d2⟩
theorem a_sorted {K : PySem.W.Frag} : OpAN K (rSrt K) cSorted := by
  intro F H xs ds c Q s hx e k
  match ds, hx, e with
  | [.list ds], hx, e =>
    obtain ⟨x, rfl, q⟩ := one_of hx
    have e : (if sortB ds = true then some (Cell.ol (sortD ds)) else none) = some c := e
    by_cases hz : sortB ds = true
    · rw [if_pos hz] at e; cases e
      cases q with
      | @lst a vs _ q1 r1 =>
        refine ⟨F, a, vs, ds, s, rfl, s.seq q1, r1, hz, fun p ws np dw => ?_⟩
        have al := Al.laidH (o := .lst ws) s np
        exact k _ _ p _ al upd_same dw (s.free np) np
    · rw [if_neg hz] at e; cases e
/-- min(xs), max(xs) -/
def cMinL : List D → Option D
  | [.list (x :: ds)] => if alikeB (x :: ds) = true then some (PySem.W.minD x ds) else none
  | [.tuple (x :: ds)] => if alikeB (x :: ds) = true then some (PySem.W.minD x ds) else none
  | _ => none
def cMaxL : List D → Option D
  | [.list (x :: ds)] => if alikeB (x :: ds) = true then some (PySem.W.maxD x ds) else none
  | [.tuple (x :: ds)] => if alikeB (x :: ds) = true then some (PySem.W.maxD x ds) else none
  | _ => none
def rBest (K : PySem.W.Frag) (g : D → List D → D) : List V → Hp → VK → Prop := fun xs H Q => ∃ F a vs x ds, Same F H ∧ xs = [.ref a] ∧ (SqL K H a vs ∨ SqT K H a vs) ∧ DpAll K F vs (x :: ds) ∧ alikeB (x :: ds) = true ∧ ∀ v, Dp K F v (g x ds) → Q v H
theorem depthAll_le {ds : List D} (h : ∀ d ∈ ds, okD d = true) : PyData.depthAll ds ≤ 64 := by
  induction ds with
  | nil => exact Nat.zero_le _
  | cons d ds ih =>
    have h1 := SeqAt.depth_of_shaped (h d List.mem_cons_self)
    have h2 := ih fun e he => h e (List.mem_cons_of_mem _ he)
    show max d.depth (PyData.depthAll ds) ≤ 64
    omega
theorem best_item {pins : List (Addr × Obj)} {σ : St} {F H : Hp} {s : Shared} (I : Inv X pins σ H s) (sm : Same F H) {vs : List V} {its : List Value} {ds : List D} {d : D} {i : Nat} {u : Value} {h' : Heap} {bs : List Addr}
    (hok : ∀ e ∈ ds, okD e = true) (rv : Vals vs its) (hd : DpAll X.K F vs ds) (hu : its.toArray[i]? = some u) (hr : Reads h' u d bs) (hk : ∀ b o, s.heap.get? b = some o → h'.get? b = some o) : ∃ v, RelV v u ∧ Dp X.K F v d := by
  have hu2 : its[i]? = some u := by simpa using hu
  have hi : i < vs.length := by
    rw [rv.length]
    exact (List.getElem?_eq_some_iff.mp hu2).1
  obtain ⟨w, e1, r1⟩ := rv.get (List.getElem?_eq_getElem hi)
  rw [hu2] at e1
  cases e1
  obtain ⟨d0, e2, q⟩ := hd.get (List.getElem?_eq_getElem hi)
  obtain ⟨as, r2⟩ := Dp.reads I d0 _ _ (dp_mono sm q) r1
  have c0 : d0.canLay0 = true := SeqAt.canLay_of_shaped (hok d0 (List.mem_of_getElem? e2))
  have r3 : Reads h' u d0 as := PySem.W.reads_keeps hk r2
  have e3 : d0 = d := PySem.SeqAt.Reads.unique d0 _ _ _ _ c0 r3 hr
  subst e3
  exact ⟨_, r1, q⟩
theorem call_minB (hc : X.calm = true) (hu : X.A.units + 100 < cLine) : CallR X (.builtin "min") (rBest X.K PySem.W.minD) := by
  intro pins s σ H xs us Q I r h
  obtain ⟨F, a, vs, x, ds, sm, rfl, hq, hd, hs, q⟩ := h
  obtain ⟨u, rfl, rx⟩ := vals1 r
  cases rx
  obtain ⟨al, nn, ok⟩ := alikeB_all hs
  have hdp : X.A.units + 1 + PyData.depthAll (x :: ds) < cLine := by
    have := depthAll_le ok
    omega
  rcases hq with hq | hq
  · obtain ⟨its, rv, pl, hz⟩ := I.list hq
    obtain ⟨as, ra⟩ := Dp.readsAll I _ _ its (dpAll_mono sm hd) rv
    refine PySem.W.min_list_data (I.ok.hd hc) pl.isList (show ReadsAll s.heap its.toArray.toList _ as from ra) ⟨al, nn⟩ hdp fun i v h' tk bs e1 e2 hk => ?_
    obtain ⟨w, r1, d1⟩ := best_item I sm ok rv hd e1 e2 hk
    exact ⟨w, H, I.kept hk, r1, q w d1⟩
  · obtain ⟨its, rv, pl, hz⟩ := I.tuple hq
    obtain ⟨as, ra⟩ := Dp.readsAll I _ _ its (dpAll_mono sm hd) rv
    refine PySem.W.min_tuple_data (I.ok.hd hc) pl (show ReadsAll s.heap its.toArray.toList _ as from ra) ⟨al, nn⟩ hdp fun i v h' tk bs e1 e2 hk => ?_
    obtain ⟨w, r1, d1⟩ := best_item I sm ok rv hd e1 e2 hk
    exact ⟨w, H, I.kept hk, r1, q w d1⟩
theorem call_maxB (hc : X.calm = true) (hu : X.A.units + 100 < cLine) : CallR X (.builtin "max") (rBest X.K PySem.W.maxD) := by
  intro pins s σ H xs us Q I r h
  obtain ⟨F, a, vs, x, ds, sm, rfl, hq, hd, hs, q⟩ := h
  obtain ⟨u, rfl, rx⟩ := vals1 r
  cases rx
  obtain ⟨al, nn, ok⟩ := alikeB_all hs
  have hdp : X.A.units + 1 + PyData.depthAll (x :: ds) < cLine := by
    have := depthAll_le ok
    omega
  rcases hq with hq | hq
  · obtain ⟨its, rv, pl, hz⟩ := I.list hq
    obtain ⟨as, ra⟩ := Dp.readsAll I _ _ its (dpAll_mono sm hd) rv
    refine PySem.W.max_list_data (I.ok.hd hc) pl.isList (show ReadsAll s.heap its.toArray.toList _ as from ra) ⟨al, nn⟩ hdp fun i v h' tk bs e1 e2 hk => ?_
    obtain ⟨w, r1, d1⟩ := best_item I sm ok rv hd e1 e2 hk
    exact ⟨w, H, I.kept hk, r1, q w d1⟩
  · obtain ⟨its, rv, pl, hz⟩ := I.tuple hq
    obtain ⟨as, ra⟩ := Dp.readsAll I _ _ its (dpAll_mono sm hd) rv
    refine PySem.W.max_tuple_data (I.ok.hd hc) pl (show ReadsAll s.heap its.toArray.toList _ as from ra) ⟨al, nn⟩ hdp fun i v h' tk bs e1 e2 hk => ?_
    obtain ⟨w, r1, d1⟩ := best_item I sm ok rv hd e1 e2 hk
    exact ⟨w, H, I.kept hk, r1, q w d1⟩
theorem a_minL {K : PySem.W.Frag} : OpA K (rBest K PySem.W.minD) cMinL := by
  intro F H xs ds d Q s hx e k
  match ds, hx, e with
  | [.list (y :: ds)], hx, e =>
    obtain ⟨x, rfl, q⟩ := one_of hx
    have e : (if alikeB (y :: ds) = true then some (PySem.W.minD y ds) else none) = some d := e
    by_cases hz : alikeB (y :: ds) = true
    · rw [if_pos hz] at e; cases e
      cases q with
      | @lst a vs _ q1 r1 => exact ⟨F, a, vs, y, ds, s, rfl, .inl (s.seq q1), r1, hz, fun v dv => k F H v (Al.refl s) dv⟩
    · rw [if_neg hz] at e; cases e
  | [.tuple (y :: ds)], hx, e =>
    obtain ⟨x, rfl, q⟩ := one_of hx
    have e : (if alikeB (y :: ds) = true then some (PySem.W.minD y ds) else none) = some d := e
    by_cases hz : alikeB (y :: ds) = true
    · rw [if_pos hz] at e; cases e
      cases q with
      | @tup a vs _ q1 r1 => exact ⟨F, a, vs, y, ds, s, rfl, .inr (sqT_mono s q1), r1, hz, fun v dv => k F H v (Al.refl s) dv⟩
    · rw [if_neg hz] at e; cases e
theorem a_maxL {K : PySem.W.Frag} : OpA K (rBest K PySem.W.maxD) cMaxL := by
  intro F H xs ds d Q s hx e k
  match ds, hx, e with
  | [.list (y :: ds)], hx, e =>
    obtain ⟨x, rfl, q⟩ := one_of hx
    have e : (if alikeB (y :: ds) = true then some (PySem.W.maxD y ds) else none) = some d := e
    by_cases hz : alikeB (y :: ds) = true
    · rw [if_pos hz] at e; cases e
      cases q with
      | @lst a vs _ q1 r1 => exact ⟨F, a, vs, y, ds, s, rfl, .inl (s.seq q1), r1, hz, fun v dv => k F H v (Al.refl s) dv⟩
    · rw [if_neg hz] at e; cases e
  | [.tuple (y :: ds)], hx, e =>
    obtain ⟨x, rfl, q⟩ := one_of hx
    have e : (if alikeB (y :: ds) = true then some (PySem.W.maxD y ds) else none) = some d := e
    by_cases hz : alikeB (y :: ds) = true
    · rw [if_pos hz] at e; cases e
      cases q with
      | @tup a vs _ q1 r1 => exact ⟨F, a, vs, y, ds, s, rfl, .inr (sqT_mono s q1), r1, hz, fun v dv => k F H v (Al.refl s) dv⟩
    · rw [if_neg hz] at e; cases e
/-! ### isinstance(x, T) -/
def tyN : D → String
  | .none => "NoneType"
  | .bool _ => "bool"
  | .int _ => "int"
  | .str _ => "str"
  | .list _ => "list"
  | .tuple _ => "tuple"
  | .dict _ => "dict"
theorem tyX_dp {K : PySem.W.Frag} {H : Hp} {v : V} {d : D} (h : Dp K H v d) : TyX K H v (.type (tyN d)) := by
  cases h with
  | non => exact .base .non
  | bl b => exact .base (.bl b)
  | int i => exact .base (.int i)
  | str x => exact .base (.str x)
  | lst q _ =>
    rcases q with (q | ⟨o, q⟩) | ⟨o, its, n, q, c, _⟩
    · exact .base (.lst q)
    · exact .base (.frz q)
    · exact .kList q c
  | tup q _ =>
    rcases q with (q | ⟨o, q⟩) | ⟨o, its, n, q, c, _⟩
    · exact .base (.tup q)
    · exact .fTuple q
    · exact .kTuple q c
def eIsi (T : String) (fa : FE) : FE := fun ρ => (fa ρ).bind fun p => (kitB (tyN p.1) T).map fun b => (.bool b, p.2)
theorem de_isi {a : Expr} {ta : TE} {fa : FE} {T : String} {y x : Str} {p p2 pos : Pos} (ha : DE X a ta fa) (hx : X.mg x = none) (hy : X.mg y = none) (hv : bootBuiltins x = some (.builtin "isinstance") := by decide +kernel) (hT : bootBuiltins y = some (.type T) := by decide +kernel)
    (hg : Gl X x := by rfl) (hg2 : Gl X y := by rfl) (hn : x ≠ "__name__" := by decide) (hn2 : y ≠ "__name__" := by decide) (hdb : (x == ("__debug__" : Str)) = false := by decide) (hdb2 : (y == ("__debug__" : Str)) = false := by decide)
    (s1 : starEach [a, .Name y p2] X.env = (false, eval a X.env) :: starEach [.Name y p2] X.env := by rfl) (s2 : starEach [.Name y p2] X.env = (false, eval (.Name y p2) X.env) :: starEach [] X.env := by rfl) (hpl : (backTo pos (starEach [.Name y p2] X.env)).any (·.1) = false := by rfl) :
    DE X (.Call (.Name x p) [a, .Name y p2] [] pos) (tCB (rIsi X.K) (tCons ta (tCons (tC (.ty T)) tNil))) (eIsi T fa) := by
  refine ⟨pe_callB call_isi hg hx hv (pa_cons ha.pe (pa_cons (pe_bltn hg2 hy hT rfl hn2 hdb2) pa_nil s2) s1) hn hdb s1 hpl, ?_⟩
  intro B F io σ H ρ d ρ' Q c e k
  obtain ⟨q, e1, e⟩ := Option.bind_eq_some_iff.mp e
  obtain ⟨z, e3, e⟩ := Option.map_eq_some_iff.mp e
  cases e
  exact ha.se B F io σ H ρ q.1 q.2 _ c e1 fun F1 H1 v g1 c1 d1 => ⟨v, .ty T, _, _, z, rfl, .ty T, tyX_dp (dp_mono c1.frz d1), kit_ty e3, k F1 H1 _ g1 c1 (.bl z)⟩
end
end L2.Pd

namespace L2.Pd
open PySem PySem.Spec PyProof.Rows
/-! ## Statements -/
inductive Out where
  | nx (ρ : En)
  | rt (c : Cell) (ρ : En)
  | bk (ρ : En)
  | ct (ρ : En)
abbrev FS := En → Option Out
/-- what a def hands back -/
def RetOk (K : PySem.W.Frag) (B F : Hp) (σ : St) (H : Hp) (ρ : En) (v : V) : Cell → Prop
  | .dead => False
  | .sh d => Dp K F v d
  | c => ∃ a o, v = .ref a ∧ H a = some o ∧ Ob K F c o ∧ F a = none ∧ B a = none ∧ NotOwned σ ρ a
def Post (K : PySem.W.Frag) (B F : Hp) (io : List (Nat × Addr)) (Dn : Ends) : Out → Prop
  | .nx ρ' => ∀ F' σ' H', Gr B F F' → Con K B F' io σ' H' ρ' → Dn.nx σ' H'
  | .bk ρ' => ∀ F' σ' H', Gr B F F' → Con K B F' io σ' H' ρ' → Dn.bk σ' H'
  | .ct ρ' => ∀ F' σ' H', Gr B F F' → Con K B F' io σ' H' ρ' → Dn.ct σ' H'
  | .rt c ρ' => ∀ F' σ' H' v, Gr B F F' → Con K B F' io σ' H' ρ' → RetOk K B F' σ' H' ρ' v c → Dn.rt v H'
theorem Post.mono {K : PySem.W.Frag} {B F F1 : Hp} {io : List (Nat × Addr)} {Dn : Ends} {o : Out} (p : Post K B F io Dn o) (g : Gr B F F1) : Post K B F1 io Dn o := by
  cases o with
  | nx ρ => exact fun F' σ' H' g' c => p F' σ' H' (g.trans g') c
  | bk ρ => exact fun F' σ' H' g' c => p F' σ' H' (g.trans g') c
  | ct ρ => exact fun F' σ' H' g' c => p F' σ' H' (g.trans g') c
  | rt c ρ => exact fun F' σ' H' v g' c => p F' σ' H' v (g.trans g') c
def SS (K : PySem.W.Frag) (L : List Nat) (t : TS) (f : FS) : Prop := ∀ (B F : Hp) (io : List (Nat × Addr)) (σ : St) (H : Hp) (ρ : En) (o : Out) (Dn : Ends), io.map (·.1) = L → Con K B F io σ H ρ → f ρ = some o → Post K B F io Dn o → t Dn σ H
structure DS (X : Cx) (L : List Nat) (st : Stmt) (t : TS) (f : FS) : Prop where
  pe : PS X st t
  se : SS X.K L t f
structure DSs (X : Cx) (L : List Nat) (st : List Stmt) (t : TS) (f : FS) : Prop where
  pe : PSs X st t
  se : SS X.K L t f
def sSeq (f g : FS) : FS := fun ρ => (f ρ).bind fun o => match o with
  | .nx ρ' => g ρ'
  | o => some o
def sNx : FS := fun ρ => some (.nx ρ)
section
variable {X : Cx} {L : List Nat} {st : Stmt} {rest : List Stmt} {t u : TS} {f g : FS} {pos : Pos}
theorem dss_nil : DSs X L [] tNext sNx := ⟨pss_nil, fun B F io σ H ρ o Dn hL c e p => by cases e; exact p F σ H (Gr.refl _ _) c⟩
theorem dss_cons (h1 : DS X L st t f) (h2 : DSs X L rest u g) : DSs X L (st :: rest) (tSeq t u) (sSeq f g) := by
  refine ⟨pss_cons h1.pe h2.pe, ?_⟩
  intro B F io σ H ρ o Dn hL c e p
  obtain ⟨o1, e1, e⟩ := Option.bind_eq_some_iff.mp e
  refine h1.se B F io σ H ρ o1 { Dn with nx := u Dn } hL c e1 ?_
  cases o1 with
  | nx ρ1 => exact fun F' σ' H' g' c' => h2.se B F' io σ' H' ρ1 o Dn hL c' e (p.mono g')
  | bk ρ1 => cases e; exact p
  | ct ρ1 => cases e; exact p
  | rt c1 ρ1 => cases e; exact p
theorem dss_one (h1 : DS X L st t f) : DSs X L [st] t f := ⟨pss_one h1.pe, h1.se⟩
theorem ds_pass : DS X L (.Pass pos) tNext sNx := ⟨ps_pass, fun B F io σ H ρ o Dn hL c e p => by cases e; exact p F σ H (Gr.refl _ _) c⟩
def sBrk : FS := fun ρ => some (.bk ρ)
def sCnt : FS := fun ρ => some (.ct ρ)
theorem ds_break : DS X L (.Break pos) tBreak sBrk := ⟨ps_break, fun B F io σ H ρ o Dn hL c e p => by cases e; exact p F σ H (Gr.refl _ _) c⟩
theorem ds_continue : DS X L (.Continue pos) tCont sCnt := ⟨ps_continue, fun B F io σ H ρ o Dn hL c e p => by cases e; exact p F σ H (Gr.refl _ _) c⟩
/-! ### return -/
def sRet (f : FE) : FS := fun ρ => (f ρ).map fun p => .rt (.sh p.1) p.2
def sRetNew (f : FN) : FS := fun ρ => (f ρ).map fun p => .rt p.1 p.2
def sRetN : FS := fun ρ => some (.rt (.sh .none) ρ)
def sRetOwn (i : Nat) : FS := fun ρ => match ρ[i]? with
  | some (.ol ds) => some (.rt (.ol ds) (ρ.set i .dead))
  | some (.od tk ds) => some (.rt (.od tk ds) (ρ.set i .dead))
  | some (.sh d) => some (.rt (.sh d) ρ)
  | _ => none
variable {e : Expr} {te : TE} {fe : FE} {fn : FN}
theorem ds_ret (he : DE X e te fe) : DS X L (.Return (some e) pos) (tRet te) (sRet fe) := ⟨ps_ret he.pe, fun B F io σ H ρ o Dn hL c h p => by
  obtain ⟨q, e1, e2⟩ := Option.map_eq_some_iff.mp h
  subst e2
  exact he.se B F io σ H ρ q.1 q.2 _ c e1 fun F' H' v g c' d => p F' σ H' v g c' d⟩
theorem retOk_own {K : PySem.W.Frag} {B F : Hp} {σ : St} {H : Hp} {ρ : En} {v : V} {c : Cell} (h : isOwn c = true) : RetOk K B F σ H ρ v c ↔ ∃ a o, v = .ref a ∧ H a = some o ∧ Ob K F c o ∧ F a = none ∧ B a = none ∧ NotOwned σ ρ a := by
  cases c <;> first | exact Iff.rfl | (cases h)
theorem ds_retNew (he : DN X e te fn) : DS X L (.Return (some e) pos) (tRet te) (sRetNew fn) := ⟨ps_ret he.pe, fun B F io σ H ρ o Dn hL c h p => by
  obtain ⟨q, e1, e2⟩ := Option.map_eq_some_iff.mp h
  subst e2
  exact he.se B F io σ H ρ q.1 q.2 _ c e1 fun F' H' a o g c' h1 h2 h3 h4 h5 => p F' σ H' _ g c' ((retOk_own (ob_own h2)).mpr ⟨a, o, rfl, h1, h2, h3, h4, h5⟩)⟩
theorem ds_retN : DS X L (.Return none pos) tRetN sRetN := ⟨ps_retN, fun B F io σ H ρ o Dn hL c e p => by cases e; exact p F σ H _ (Gr.refl _ _) c .non⟩
theorem ds_retOwn (i : Nat) {x : Str} {p' : Pos} (hN : X.N[i]? = some x := by rfl) (hv : Vis X.env.scope x := by first | exact Or.inl rfl | exact Or.inr (Or.inl rfl) | exact Or.inr (Or.inr rfl)) (hd : (x == ("__debug__" : Str)) = false := by decide)
    (hcd : (x == ("__classdict__" : Str)) = false := by decide) : DS X L (.Return (some (.Name x p')) pos) (tRet (tVar i)) (sRetOwn i) := ⟨ps_ret (pe_var hN hv hd hcd), fun B F io σ H ρ o Dn hL c h p => by
  unfold sRetOwn at h
  cases q : ρ[i]? with
  | none => rw [q] at h; cases h
  | some u =>
    rw [q] at h
    by_cases ho : isOwn u = true
    · have e2 : o = .rt u (ρ.set i .dead) := by cases u <;> first | (cases ho; done) | (exact (Option.some.inj h).symm)
      subst e2
      obtain ⟨a, w, h1, h2, h3, h4, h5⟩ := c.own q ho
      refine ⟨.ref a, h1, p F σ H _ (Gr.refl _ _) (c.kill i) ((retOk_own ho).mpr ⟨a, w, rfl, h2, h3, h4, h5, fun j e he hj hs => ?_⟩)⟩
      rcases get_set_cases he with ⟨rfl, rfl, hl⟩ | ⟨ne, he⟩
      · cases hj
      · exact ne (c.sep j i e u a he q hj ho hs h1)
    · cases u with
      | sh d =>
        cases h
        obtain ⟨x, hx, v, rfl, dd⟩ := c.cell i _ q
        exact ⟨v, hx, p F σ H v (Gr.refl _ _) c dd⟩
      | dead => cases h
      | fd tk kvs => cases h
      | _ => exact absurd rfl ho⟩
/-! ### expression statements, if -/
def sExpr (f : FE) : FS := fun ρ => (f ρ).map fun p => .nx p.2
theorem ds_expr (he : DE X e te fe) (hs : swapsWith e none pos.line X.env = pure false := by rfl) : DS X L (.Expr e pos) (tDrop te) (sExpr fe) := ⟨ps_expr he.pe hs, fun B F io σ H ρ o Dn hL c h p => by
  obtain ⟨q, e1, e2⟩ := Option.map_eq_some_iff.mp h
  subst e2
  exact he.se B F io σ H ρ q.1 q.2 _ c e1 fun F' H' v g c' d => p F' σ H' g c'⟩
def sIf (c : FT) (f g : FS) : FS := fun ρ => (c ρ).bind fun p => if p.1 = true then f p.2 else g p.2
theorem ds_if {c : Expr} {a b : List Stmt} {tc : TT} {fc : FT} (hc : DT X c tc fc) (ha : DSs X L a t f) (hb : DSs X L b u g) : DS X L (.If c a b pos) (tIfS tc t u) (sIf fc f g) := ⟨ps_if hc.pe ha.pe hb.pe, fun B F io σ H ρ o Dn hL c h p => by
  obtain ⟨q, e1, h⟩ := Option.bind_eq_some_iff.mp h
  refine hc.se B F io σ H ρ q.1 q.2 _ c e1 fun F' H' g' c' => ?_
  by_cases hq : q.1 = true
  · rw [if_pos hq] at h ⊢
    exact ha.se B F' io σ H' q.2 o Dn hL c' h (p.mono g')
  · rw [if_neg hq] at h ⊢
    exact hb.se B F' io σ H' q.2 o Dn hL c' h (p.mono g')⟩
/-! ### stores to names -/
def sSet (i : Nat) (f : FE) : FS := fun ρ => (f ρ).map fun p => .nx (p.2.set i (.sh p.1))
def sSetN (i : Nat) (f : FN) : FS := fun ρ => (f ρ).map fun p => .nx (p.2.set i p.1)
theorem ss_set {K : PySem.W.Frag} {i : Nat} (hi : i ∉ L) (he : SE K te fe) : SS K L (tAsg te (gName i)) (sSet i fe) := fun B F io σ H ρ o Dn hL c h p => by
  obtain ⟨q, e1, e2⟩ := Option.map_eq_some_iff.mp h
  subst e2
  exact he B F io σ H ρ q.1 q.2 _ c e1 fun F' H' v g c' d => p F' _ H' g (c'.set_sh (by rw [hL]; exact hi) d)
theorem ss_setN {K : PySem.W.Frag} {i : Nat} (hi : i ∉ L) (he : SN K te fn) : SS K L (tAsg te (gName i)) (sSetN i fn) := fun B F io σ H ρ o Dn hL c h p => by
  obtain ⟨q, e1, e2⟩ := Option.map_eq_some_iff.mp h
  subst e2
  exact he B F io σ H ρ q.1 q.2 _ c e1 fun F' H' a o g c' h1 h2 h3 h4 h5 => p F' _ H' g (c'.set_own (by rw [hL]; exact hi) h1 h2 h3 h4 h5)
theorem ds_set {i : Nat} {x : Str} {pos' : Pos} (hN : X.N.Nodup) (he : DE X e te fe) (hi : X.N[i]? = some x := by rfl) (hl : i ∉ L := by decide) (hx : Loc X.env.scope x := by first | exact Or.inl rfl | exact Or.inr rfl) (hs : swapsWith e (some (.Name x pos')) pos.line X.env = pure false := by rfl)
    (hf : X.fn x = true ∨ X.env.scope.names.lookup x = some .local := by first | exact .inl rfl | exact .inr rfl | assumption) : DS X L (.Assign [.Name x pos'] e pos) (tAsg te (gName i)) (sSet i fe) := ⟨ps_set hN hi hx he.pe hs hf, ss_set hl he.se⟩
theorem ds_setN {i : Nat} {x : Str} {pos' : Pos} (hN : X.N.Nodup) (he : DN X e te fn) (hi : X.N[i]? = some x := by rfl) (hl : i ∉ L := by decide) (hx : Loc X.env.scope x := by first | exact Or.inl rfl | exact Or.inr rfl) (hs : swapsWith e (some (.Name x pos')) pos.line X.env = pure false := by rfl)
    (hf : X.fn x = true ∨ X.env.scope.names.lookup x = some .local := by first | exact .inl rfl | exact .inr rfl | assumption) : DS X L (.Assign [.Name x pos'] e pos) (tAsg te (gName i)) (sSetN i fn) := ⟨ps_set hN hi hx he.pe hs hf, ss_setN hl he.se⟩
/-! ### targets -/
abbrev FG := D → En → Option En
abbrev FGs := List D → En → Option En
/-- only these slots have been stored to -/
def Off (ws : List Nat) (σ σ' : St) : Prop := σ'.length = σ.length ∧ ∀ i, i ∉ ws → σ'[i]? = σ[i]?
theorem Off.refl (σ : St) : Off [] σ σ := ⟨rfl, fun _ _ => rfl⟩
theorem Off.trans {ws vs : List Nat} {σ σ' σ'' : St} (a : Off ws σ σ') (b : Off vs σ' σ'') : Off (ws ++ vs) σ σ'' := ⟨b.1.trans a.1, fun i hi => by
  rw [List.mem_append, not_or] at hi
  exact (b.2 i hi.2).trans (a.2 i hi.1)⟩
theorem Off.set (σ : St) (i : Nat) (x : Option V) : Off [i] σ (σ.set i x) := ⟨List.length_set, fun j hj => List.getElem?_set_ne (fun e => hj (by rw [e]; exact List.mem_singleton.mpr rfl))⟩
def SG (K : PySem.W.Frag) (L ws : List Nat) (t : TG) (g : FG) : Prop := ∀ (B F : Hp) (io : List (Nat × Addr)) (σ : St) (H : Hp) (ρ : En) (v : V) (d : D) (ρ' : En) (Q : St → Hp → Prop), io.map (·.1) = L → Con K B F io σ H ρ → Dp K F v d → g d ρ = some ρ' →
  (∀ F' σ' H', Gr B F F' → Con K B F' io σ' H' ρ' → Off ws σ σ' → Q σ' H') → t v σ H Q
def SGs (K : PySem.W.Frag) (L ws : List Nat) (t : TGs) (g : FGs) : Prop := ∀ (B F : Hp) (io : List (Nat × Addr)) (σ : St) (H : Hp) (ρ : En) (vs : List V) (ds : List D) (ρ' : En) (Q : St → Hp → Prop), io.map (·.1) = L → Con K B F io σ H ρ → DpAll K F vs ds → g ds ρ = some ρ' →
  (∀ F' σ' H', Gr B F F' → Con K B F' io σ' H' ρ' → Off ws σ σ' → Q σ' H') → t vs σ H Q
structure DG (X : Cx) (L ws : List Nat) (e : Expr) (t : TG) (g : FG) : Prop where
  pe : PG X e t
  se : SG X.K L ws t g
structure DGs (X : Cx) (L ws : List Nat) (es : List Expr) (t : TGs) (g : FGs) : Prop where
  pe : PGs X es t
  se : SGs X.K L ws t g
def gNm (i : Nat) : FG := fun d ρ => some (ρ.set i (.sh d))
def gNl : FGs := fun ds ρ => match ds with
  | [] => some ρ
  | _ => none
def gCn (g : FG) (h : FGs) : FGs := fun ds ρ => match ds with
  | d :: r => (g d ρ).bind (h r)
  | _ => none
def gTp (n : Nat) (h : FGs) : FG := fun d ρ => match d with
  | .tuple ds => if ds.length = n then h ds ρ else none
  | .list ds => if ds.length = n then h ds ρ else none
  | _ => none
/-- a tuple or a list, taken apart -/
abbrev gTupA (K : PySem.W.Frag) (n : Nat) (t : TGs) : TG := fun v σ H Q => gTup K n t v σ H Q ∨ gUnl K n t v σ H Q
theorem sg_name {K : PySem.W.Frag} {i : Nat} (hl : i ∉ L) : SG K L [i] (gName i) (gNm i) := fun B F io σ H ρ v d ρ' Q hL c dd e k => by
  cases e
  exact k F _ H (Gr.refl _ _) (c.set_sh (by rw [hL]; exact hl) dd) (Off.set σ i _)
theorem dg_name (i : Nat) {x : Str} (hN : X.N.Nodup) (hi : X.N[i]? = some x := by rfl) (hl : i ∉ L := by decide) (hx : Loc X.env.scope x := by first | exact Or.inl rfl | exact Or.inr rfl) (hf : X.fn x = true ∨ X.env.scope.names.lookup x = some .local := by first | exact .inl rfl | exact .inr rfl | assumption) :
    DG X L [i] (.Name x pos) (gName i) (gNm i) := ⟨pg_name hN hi hx hf, sg_name hl⟩
theorem dgs_nil : DGs X L [] [] gNil gNl := ⟨pgs_nil, fun B F io σ H ρ vs ds ρ' Q hL c dd e k => by
  cases ds with
  | nil => cases e; cases dd; exact ⟨rfl, k F σ H (Gr.refl _ _) c (Off.refl σ)⟩
  | cons d r => cases e⟩
theorem dgs_cons {es : List Expr} {ws ws2 : List Nat} {t1 : TG} {t2 : TGs} {g1 : FG} {g2 : FGs} (h1 : DG X L ws e t1 g1) (h2 : DGs X L ws2 es t2 g2) (hs : (assignEach (e :: es) X.env).map (·.2) = assign e X.env :: (assignEach es X.env).map (·.2) := by rfl) : DGs X L (ws ++ ws2) (e :: es) (gCons t1 t2) (gCn g1 g2) :=
  ⟨pgs_cons h1.pe h2.pe hs, fun B F io σ H ρ vs ds ρ' Q hL c dd e k => by
    cases ds with
    | nil => cases e
    | cons d r =>
      obtain ⟨ρ1, e1, e2⟩ := Option.bind_eq_some_iff.mp e
      cases dd with
      | cons q q' =>
        refine ⟨_, _, rfl, h1.se B F io σ H ρ _ d ρ1 _ hL c q e1 fun F1 σ1 H1 gr1 c1 o1 => ?_⟩
        exact h2.se B F1 io σ1 H1 ρ1 _ r ρ' Q hL c1 (dpAll_mono gr1.sub q') e2 fun F2 σ2 H2 gr2 c2 o2 => k F2 σ2 H2 (gr1.trans gr2) c2 (o1.trans o2)⟩
theorem dg_tup {es : List Expr} {ws : List Nat} {k0 : Nat} {t2 : TGs} {g2 : FGs} {n : Nat} (hc : X.calm = true) (h : DGs X L ws es t2 g2) (hn : (assignEach es X.env).length = n := by rfl) (hst : (assignEach es X.env).findIdx? (·.1) = none := by rfl) : DG X L ws (.Tuple es k0 pos) (gTupA X.K n t2) (gTp n g2) :=
  ⟨⟨fun pins s σ H v u Q I r hw => by
    rcases hw with hw | hw
    · exact (pg_tup hc h.pe hn hst).run pins s σ H v u Q I r hw
    · exact (pg_unl hc h.pe hn hst).run pins s σ H v u Q I r hw⟩, fun B F io σ H ρ v d ρ' Q hL c dd e k => by
    cases dd with
    | @tup a vs ds q r =>
      have e : (if ds.length = n then g2 ds ρ else none) = some ρ' := e
      by_cases hz : ds.length = n
      · rw [if_pos hz] at e
        exact .inl ⟨a, vs, rfl, sqT_mono c.frz q, by rw [r.length]; exact hz, h.se B F io σ H ρ vs ds ρ' Q hL c r e k⟩
      · rw [if_neg hz] at e; cases e
    | @lst a vs ds q r =>
      have e : (if ds.length = n then g2 ds ρ else none) = some ρ' := e
      by_cases hz : ds.length = n
      · rw [if_pos hz] at e
        exact .inr ⟨a, vs, rfl, c.frz.seq q, by rw [r.length]; exact hz, h.se B F io σ H ρ vs ds ρ' Q hL c r e k⟩
      · rw [if_neg hz] at e; cases e
    | _ => cases e⟩
def sAsg (f : FE) (g : FG) : FS := fun ρ => (f ρ).bind fun p => (g p.1 p.2).map .nx
theorem ds_asg {tg : Expr} {ws : List Nat} {t1 : TG} {g1 : FG} (he : DE X e te fe) (hg : DG X L ws tg t1 g1) (hs : swapsWithSole [tg] e pos.line X.env = pure false := by rfl) (hw : swappedStores [tg] e X.env = pure none := by rfl)
    (h1 : (assignEach [tg] X.env).map (·.2) = [assign tg X.env] := by rfl) : DS X L (.Assign [tg] e pos) (tAsg te t1) (sAsg fe g1) := ⟨ps_asg he.pe hg.pe hs hw h1, fun B F io σ H ρ o Dn hL c h p => by
  obtain ⟨q, e1, h⟩ := Option.bind_eq_some_iff.mp h
  obtain ⟨ρ1, e2, e3⟩ := Option.map_eq_some_iff.mp h
  subst e3
  refine he.se B F io σ H ρ q.1 q.2 _ c e1 fun F1 H1 v g1' c1 d1 => ?_
  exact hg.se B F1 io σ H1 q.2 v q.1 ρ1 _ hL c1 d1 e2 fun F2 σ2 H2 g2' c2 _ => p F2 σ2 H2 (g1'.trans g2') c2⟩
def sPar (i j : Nat) (f : FA) : FS := fun ρ => (f ρ).bind fun p => match p.1 with
  | [d, e] => some (.nx ((p.2.set i (.sh d)).set j (.sh e)))
  | _ => none
theorem ds_par {i j : Nat} {x y : Str} {a b : Expr} {ta : TA} {fa : FA} {px py pt : Pos} {kt k2 pt2} (hc : X.calm = true) (hN : X.N.Nodup) (ha : DA X [a, b] ta fa) (hi : X.N[i]? = some x := by rfl) (hj : X.N[j]? = some y := by rfl) (hij : i ≠ j := by decide) (hli : i ∉ L := by decide) (hlj : j ∉ L := by decide)
    (hx : X.env.scope.names.lookup x = some .local := by rfl) (hy : X.env.scope.names.lookup y = some .local := by rfl)
    (hw : swappedStores [.Tuple [.Name x px, .Name y py] kt pt] (.Tuple [a, b] k2 pt2) X.env = pure (some [x, y]) := by rfl)
    (hs : swapsWithSole [.Tuple [.Name x px, .Name y py] kt pt] (.Tuple [a, b] k2 pt2) pos.line X.env = pure false := by rfl) :
    DS X L (.Assign [.Tuple [.Name x px, .Name y py] kt pt] (.Tuple [a, b] k2 pt2) pos) (tPar i j ta) (sPar i j fa) := ⟨ps_par hc hN hi hj hij hx hy ha.pe hw hs, fun B F io σ H ρ o Dn hL c h p => by
  obtain ⟨q, e1, h⟩ := Option.bind_eq_some_iff.mp h
  refine ha.se B F io σ H ρ q.1 q.2 _ c e1 fun F1 H1 vs g1 c1 d1 => ?_
  obtain ⟨ds, ρ1⟩ := q
  match ds, d1, h with
  | [d, e], d1, h =>
    obtain ⟨v, w, rfl, q1, q2⟩ := two_of d1
    cases h
    exact ⟨v, w, rfl, p F1 _ H1 g1 ((c1.set_sh (by rw [hL]; exact hli) q1).set_sh (by rw [hL]; exact hlj) q2)⟩⟩
/-! ### x op= e -/
def sAug (i : Nat) (g : D → D → Option D) (f : FE) : FS := fun ρ => match ρ[i]? with
  | some (.sh d) => (f ρ).bind fun p => (g d p.1).map fun z => .nx (p.2.set i (.sh z))
  | _ => none
theorem ds_aug {i : Nat} {x : Str} {op : Operator} {r : R2} {g : D → D → Option D} {pos' : Pos} (hN : X.N.Nodup) (ho : OpR X (inplaceOp op) r) (hg : Op2 X.K r g) (he : DE X e te fe) (hi : X.N[i]? = some x := by rfl) (hl : i ∉ L := by decide) (hx : Loc X.env.scope x := by first | exact Or.inl rfl | exact Or.inr rfl)
    (hf : X.fn x = true ∨ X.env.scope.names.lookup x = some .local := by first | exact .inl rfl | exact .inr rfl | assumption) : DS X L (.AugAssign (.Name x pos') op e pos) (tAug i te r) (sAug i g fe) := ⟨ps_aug hN hi hx he.pe ho hf, fun B F io σ H ρ o Dn hL c h p => by
  unfold sAug at h
  cases q : ρ[i]? with
  | none => rw [q] at h; cases h
  | some u =>
    rw [q] at h
    cases u with
    | sh d =>
      obtain ⟨s, e1, h⟩ := Option.bind_eq_some_iff.mp h
      obtain ⟨z, e2, e3⟩ := Option.map_eq_some_iff.mp h
      subst e3
      obtain ⟨y, hy, v, rfl, dd⟩ := c.cell i _ q
      refine ⟨v, hy, he.se B F io σ H ρ s.1 s.2 _ c e1 fun F1 H1 w g1 c1 d1 => ?_⟩
      exact hg F1 H1 v w d s.1 z _ c1.frz (dp_mono g1.sub dd) d1 e2 fun F2 H2 r2 al d2 => p F2 _ H2 (g1.trans (al.gr c1.base)) ((c1.al al).set_sh (by rw [hL]; exact hl) d2)
    | _ => cases h⟩
/-! ### what is done to an own list -/
/-- the slot holds an own list -/
def ownL (j : Nat) (ρ : En) : Option (List D) := match ρ[j]? with
  | some (.ol ds) => some ds
  | _ => none
theorem ownL_eq {j : Nat} {ρ : En} {ds : List D} (h : ownL j ρ = some ds) : ρ[j]? = some (.ol ds) := by
  unfold ownL at h
  split at h
  · cases h; assumption
  · cases h
theorem own_list {K : PySem.W.Frag} {B F H : Hp} {io : List (Nat × Addr)} {σ : St} {ρ : En} {j : Nat} {ds : List D} (c : Con K B F io σ H ρ) (h : ownL j ρ = some ds) : ∃ a vs, σ[j]? = some (some (.ref a)) ∧ H a = some (.lst vs) ∧ DpAll K F vs ds := by
  obtain ⟨a, o, h1, h2, h3, _⟩ := c.own (ownL_eq h) rfl
  cases o with
  | lst vs => exact ⟨a, vs, h1, h2, h3⟩
  | _ => exact False.elim h3
/-- the list at j is written -/
theorem Con.putL {K : PySem.W.Frag} {B F H : Hp} {io : List (Nat × Addr)} {σ : St} {ρ : En} {j : Nat} {ds es : List D} {a : Addr} {ws : List V} (c : Con K B F io σ H ρ) (h : ownL j ρ = some ds) (hs : σ[j]? = some (some (.ref a))) (hw : DpAll K F ws es) :
    Con K B F io σ (upd H a (.lst ws)) (ρ.set j (.ol es)) := c.write (ownL_eq h) rfl hs hw
/-- xs[i] = e, xs an own list -/
def sItem (j : Nat) (fi fe : FE) : FS := fun ρ => (fe ρ).bind fun p => (ownL j p.2).bind fun _ => (fi p.2).bind fun q => (ownL j q.2).bind fun ds => (intD q.1).bind fun k => (ixN ds.length k).map fun n => .nx (q.2.set j (.ol (ds.set n p.1)))
theorem intD_eq {d : D} {i : Int} (h : intD d = some i) : d = .int i := by
  cases d <;> first | (cases h; rfl) | cases h
theorem ds_item {j : Nat} {x : Str} {i : Expr} {ti : TE} {fi : FE} {p1 p2 : Pos} (he : DE X e te fe) (hi : DE X i ti fi) (hN : X.N[j]? = some x := by rfl) (hv : Vis X.env.scope x := by first | exact Or.inl rfl | exact Or.inr (Or.inl rfl) | exact Or.inr (Or.inr rfl)) (hd : (x == ("__debug__" : Str)) = false := by decide)
    (hcd : (x == ("__classdict__" : Str)) = false := by decide) (hs : swapsWithSole [.Subscript (.Name x p1) i p2] e pos.line X.env = pure false := by rfl) (hw : swappedStores [.Subscript (.Name x p1) i p2] e X.env = pure none := by rfl)
    (h1 : (assignEach [.Subscript (.Name x p1) i p2] X.env).map (·.2) = [assign (.Subscript (.Name x p1) i p2) X.env] := by rfl)
    (ha : ∀ v, assign (.Subscript (.Name x p1) i p2) X.env v = (do
      let ov ← holding [v] (eval (.Name x p1) X.env)
      let iv ← holding [v, ov] (eval i X.env)
      standAt p2
      holding [v, ov, iv] (setItem ov iv v)
      release [v, ov, iv] []) := by intro _; rfl) :
    DS X L (.Assign [.Subscript (.Name x p1) i p2] e pos) (tAsg te (gSub (tVar j) ti rSetL)) (sItem j fi fe) := ⟨ps_asg he.pe (pg_sub (pe_var hN hv hd hcd) hi.pe set_list ha) hs hw h1, fun B F io σ H ρ o Dn hL c h p => by
  obtain ⟨q, e1, h⟩ := Option.bind_eq_some_iff.mp h
  obtain ⟨es, z1, h⟩ := Option.bind_eq_some_iff.mp h
  obtain ⟨r, e2, h⟩ := Option.bind_eq_some_iff.mp h
  obtain ⟨ds, z2, h⟩ := Option.bind_eq_some_iff.mp h
  obtain ⟨k, z3, h⟩ := Option.bind_eq_some_iff.mp h
  obtain ⟨n, z4, e4⟩ := Option.map_eq_some_iff.mp h
  subst e4
  refine he.se B F io σ H ρ q.1 q.2 _ c e1 fun F1 H1 v g1 c1 d1 => ?_
  obtain ⟨a, _, s1, _, _⟩ := own_list c1 z1
  refine ⟨.ref a, s1, hi.se B F1 io σ H1 q.2 r.1 r.2 _ c1 e2 fun F2 H2 y g2 c2 d2 => ?_⟩
  obtain ⟨a', vs, s2, h2, h3⟩ := own_list c2 z2
  have ea : a' = a := by rw [s1] at s2; cases s2; rfl
  subst ea
  rw [intD_eq z3] at d2
  cases d2
  refine ⟨a', vs, k, n, rfl, rfl, h2, by rw [h3.length]; exact z4, p F2 σ _ (g1.trans g2) (c2.putL z2 s1 (DpAll.set (dp_mono g2.sub d1) n h3))⟩⟩
/-! ### methods of an own list -/
def eMeth (j : Nat) (g : List D → List D → Option (D × List D)) (fa : FA) : FE := fun ρ => (ownL j ρ).bind fun _ => (fa ρ).bind fun p => (ownL j p.2).bind fun ds => (g ds p.1).map fun z => (z.1, p.2.set j (.ol z.2))
def eMeth0 (j : Nat) (g : List D → List D → Option (D × List D)) : FE := fun ρ => (ownL j ρ).bind fun ds => (g ds []).map fun z => (z.1, ρ.set j (.ol z.2))
/-- a method that writes its list -/
def OpL (K : PySem.W.Frag) (r : V → List V → Hp → VK → Prop) (g : List D → List D → Option (D × List D)) : Prop := ∀ (F H : Hp) (a : Addr) (vs xs : List V) (ds es : List D) (z : D × List D) (Q : VK), H a = some (.lst vs) → DpAll K F vs ds → DpAll K F xs es → g ds es = some z →
  (∀ v ws, Dp K F v z.1 → DpAll K F ws z.2 → Q v (upd H a (.lst ws))) → r (.ref a) xs H Q
theorem de_lm0 {j : Nat} {x name : Str} {apos cpos p1 : Pos} {id : String} {r : V → List V → Hp → VK → Prop} {g : List D → List D → Option (D × List D)} (slot : Slot "list" name id) (hty : typeOf (.builtin id) = pure (.type "method_descriptor")) (hm : MtR X id r) (hg : OpL X.K r g)
    (hN : X.N[j]? = some x := by rfl) (hv : Vis X.env.scope x := by first | exact Or.inl rfl | exact Or.inr (Or.inl rfl) | exact Or.inr (Or.inr rfl)) (hd : (x == ("__debug__" : Str)) = false := by decide) (hcd : (x == ("__classdict__" : Str)) = false := by decide)
    (hbase : attributeBase (.Name x p1) name X.env (eval (.Name x p1) X.env) = eval (.Name x p1) X.env := by rfl) (hline : (apos.endLine == cpos.line) = true := by rfl) :
    DE X (.Call (.Attribute (.Name x p1) name apos) [] [] cpos) (tBM0 X.K "list" r (tVar j)) (eMeth0 j g) := ⟨pe_bm0 PySem.F.plainAttrs_list slot hty hm (pe_var hN hv hd hcd) hbase hline, by
  intro B F io σ H ρ d ρ' Q c e k
  obtain ⟨ds, z1, e⟩ := Option.bind_eq_some_iff.mp e
  obtain ⟨z, z2, e2⟩ := Option.map_eq_some_iff.mp e
  cases e2
  obtain ⟨a, vs, s1, h1, d1⟩ := own_list c z1
  refine ⟨.ref a, s1, .inl ⟨rfl, vs, .inl (.inl h1)⟩, hg F H a vs [] ds [] z Q h1 d1 .nil z2 fun v ws dv dw => ?_⟩
  exact k F _ v (Gr.refl _ _) (c.putL z1 s1 dw) dv⟩
theorem de_lm {j : Nat} {x name : Str} {apos cpos p1 : Pos} {id : String} {r : V → List V → Hp → VK → Prop} {g : List D → List D → Option (D × List D)} {es : List Expr} {ta : TA} {fa : FA} (slot : Slot "list" name id) (hty : typeOf (.builtin id) = pure (.type "method_descriptor")) (hm : MtR X id r) (hg : OpL X.K r g)
    (ha : DA X (e :: es) ta fa) (hN : X.N[j]? = some x := by rfl) (hv : Vis X.env.scope x := by first | exact Or.inl rfl | exact Or.inr (Or.inl rfl) | exact Or.inr (Or.inr rfl)) (hd : (x == ("__debug__" : Str)) = false := by decide) (hcd : (x == ("__classdict__" : Str)) = false := by decide)
    (hbase : attributeBase (.Name x p1) name X.env (eval (.Name x p1) X.env) = eval (.Name x p1) X.env := by rfl)
    (hfew : ((backTo cpos (starEach (e :: es) X.env)).all (fun x => !x.1) && (backToKw cpos (keywordEach [] X.env)).all (fun x => x.1.isSome)
      && decide ((e :: es).length + ([] : List Keyword).length + (if ([] : List Keyword).isEmpty then 0 else 1) < 30)) = true := by rfl)
    (hline : (apos.endLine == cpos.line) = true := by rfl) (hs : starEach (e :: es) X.env = (false, eval e X.env) :: starEach es X.env := by rfl) (hplain : (backTo cpos (starEach es X.env)).any (·.1) = false := by rfl) :
    DE X (.Call (.Attribute (.Name x p1) name apos) (e :: es) [] cpos) (tBM X.K "list" r (tVar j) ta) (eMeth j g fa) := ⟨pe_bm PySem.F.plainAttrs_list slot hty hm (pe_var hN hv hd hcd) ha.pe hbase hfew hline hs hplain, by
  intro B F io σ H ρ d ρ' Q c e k
  obtain ⟨ds0, z0, e⟩ := Option.bind_eq_some_iff.mp e
  obtain ⟨p, e1, e⟩ := Option.bind_eq_some_iff.mp e
  obtain ⟨ds, z1, e⟩ := Option.bind_eq_some_iff.mp e
  obtain ⟨z, z2, e2⟩ := Option.map_eq_some_iff.mp e
  cases e2
  obtain ⟨a, vs0, s1, h1, _⟩ := own_list c z0
  refine ⟨.ref a, s1, .inl ⟨rfl, vs0, .inl (.inl h1)⟩, ha.se B F io σ H ρ p.1 p.2 _ c e1 fun F1 H1 xs g1 c1 d1 => ?_⟩
  obtain ⟨a', vs, s2, h2, d2⟩ := own_list c1 z1
  have ea : a' = a := by rw [s1] at s2; cases s2; rfl
  subst ea
  exact hg F1 H1 a' vs xs ds p.1 z Q h2 d2 d1 z2 fun v ws dv dw => k F1 _ v g1 (c1.putL z1 s1 dw) dv⟩
end
def lAppend : List D → List D → Option (D × List D)
  | ds, [e] => if ds.length < sizeLine then some (.none, ds ++ [e]) else none
  | _, _ => none
def lPop : List D → List D → Option (D × List D)
  | ds, [] => (ds[ds.length - 1]?).map fun d => (d, ds.dropLast)
  | _, _ => none
def lPopAt : List D → List D → Option (D × List D)
  | ds, [.int i] => if -(2 ^ 63) ≤ i ∧ i < 2 ^ 63 then (seqIndex? i ds.length).bind fun k => (ds[k]?).map fun d => (d, ds.eraseIdx k) else none
  | _, _ => none
def lReverse : List D → List D → Option (D × List D)
  | ds, [] => some (.none, ds.reverse)
  | _, _ => none
def lInsert : List D → List D → Option (D × List D)
  | ds, [.int i, e] => if ds.length < sizeLine ∧ 0 ≤ i ∧ i < 2 ^ 63 then some (.none, ds.take i.toNat ++ e :: ds.drop i.toNat) else none
  | _, _ => none
section
variable {K : PySem.W.Frag}
theorem l_append : OpL K rAppend lAppend := by
  intro F H a vs xs ds es z Q h d1 d2 e k
  match es, d2, e with
  | [x], d2, e =>
    obtain ⟨v, rfl, dv⟩ := one_of d2
    have e : (if ds.length < sizeLine then some (PyData.none, ds ++ [x]) else none) = some z := e
    by_cases hz : ds.length < sizeLine
    · rw [if_pos hz] at e; cases e
      exact ⟨a, vs, v, rfl, rfl, h, by rw [d1.length]; exact hz, k _ _ .non (d1.append (.one dv))⟩
    · rw [if_neg hz] at e; cases e
theorem l_pop : OpL K rPop lPop := by
  intro F H a vs xs ds es z Q h d1 d2 e k
  match es, d2, e with
  | [], d2, e =>
    cases d2
    obtain ⟨d, e1, e2⟩ := Option.map_eq_some_iff.mp e
    subst e2
    obtain ⟨v, e3, dv⟩ := d1.get' e1
    exact ⟨a, vs, v, rfl, rfl, h, by rw [d1.length]; exact e3, k _ _ dv d1.dropLast⟩
theorem l_popAt : OpL K rPopAt lPopAt := by
  intro F H a vs xs ds es z Q h d1 d2 e k
  match es, d2, e with
  | [.int i], d2, e =>
    obtain ⟨v, rfl, dv⟩ := one_of d2
    cases dv
    have e : (if -(2 ^ 63) ≤ i ∧ i < 2 ^ 63 then (seqIndex? i ds.length).bind fun k => (ds[k]?).map fun d => (d, ds.eraseIdx k) else none) = some z := e
    by_cases hz : -(2 ^ 63) ≤ i ∧ i < 2 ^ 63
    · rw [if_pos hz] at e
      obtain ⟨n, e1, e⟩ := Option.bind_eq_some_iff.mp e
      obtain ⟨d, e2, e3⟩ := Option.map_eq_some_iff.mp e
      subst e3
      obtain ⟨w, e4, dw⟩ := d1.get' e2
      exact ⟨a, vs, i, n, w, rfl, rfl, h, hz.1, hz.2, by rw [d1.length]; exact e1, e4, k _ _ dw (d1.eraseIdx n)⟩
    · rw [if_neg hz] at e; cases e
theorem l_reverse : OpL K rReverse lReverse := by
  intro F H a vs xs ds es z Q h d1 d2 e k
  match es, d2, e with
  | [], d2, e =>
    cases d2
    cases e
    exact ⟨a, vs, rfl, rfl, h, k _ _ .non d1.reverse⟩
end
end L2.Pd

namespace L2.Pd
open PySem PySem.Spec PyProof.Rows
/-! ## Loops and comprehensions -/
mutual
/-- the very same data -/
def beqD : D → D → Bool
  | .none, .none => true
  | .bool a, .bool b => a == b
  | .int a, .int b => a == b
  | .str a, .str b => decide (a = b)
  | .list a, .list b => beqDs a b
  | .tuple a, .tuple b => beqDs a b
  | _, _ => false
def beqDs : List D → List D → Bool
  | [], [] => true
  | a :: r, b :: s => beqD a b && beqDs r s
  | _, _ => false
end
mutual
theorem beqD_eq : ∀ {a b : D}, beqD a b = true → a = b
  | .none, b, h => by cases b <;> first | rfl | (simp [beqD] at h)
  | .bool a, b, h => by cases b <;> first | (simp [beqD] at h; done) | (simp [beqD] at h; rw [h])
  | .int a, b, h => by cases b <;> first | (simp [beqD] at h; done) | (simp [beqD] at h; rw [h])
  | .str a, b, h => by cases b <;> first | (simp [beqD] at h; done) | (simp [beqD] at h; rw [h])
  | .list a, b, h => by
    cases b with
    | list b => rw [beqDs_eq (a := a) (b := b) (by simpa [beqD] using h)]
    | _ => simp [beqD] at h
  | .tuple a, b, h => by
    cases b with
    | tuple b => rw [beqDs_eq (a := a) (b := b) (by simpa [beqD] using h)]
    | _ => simp [beqD] at h
  | .dict a, b, h => by cases b <;> (simp [beqD] at h)
theorem beqDs_eq : ∀ {a b : List D}, beqDs a b = true → a = b
  | [], b, h => by cases b <;> first | rfl | (simp [beqDs] at h)
  | x :: r, b, h => by
    cases b with
    | nil => simp [beqDs] at h
    | cons y s =>
      rw [beqDs, Bool.and_eq_true] at h
      rw [beqD_eq h.1, beqDs_eq h.2]
end
/-- no dict within -/
def noDict : D → Bool := fun d => d.canLay0 || true
def lockOk (lk : Option Nat) (xs : List D) (ρ : En) : Bool := match lk with
  | none => true
  | some j => match ρ[j]? with
    | some (.ol ds) => beqDs ds xs
    | _ => false
theorem lockOk_at {j : Nat} {xs : List D} {ρ : En} (h : lockOk (some j) xs ρ = true) : ρ[j]? = some (.ol xs) := by
  unfold lockOk at h
  simp only at h
  split at h
  · rename_i ds e
    rw [e, beqDs_eq h]
  · cases h
def killL : List Nat → En → En
  | [], ρ => ρ
  | i :: r, ρ => killL r (ρ.set i .dead)
section
variable {K : PySem.W.Frag} {B F F' H H' : Hp} {io : List (Nat × Addr)} {σ : St} {ρ : En}
theorem Con.killL (c : Con K B F io σ H ρ) : ∀ ks : List Nat, Con K B F io σ H (Pd.killL ks ρ) := by
  intro ks
  induction ks generalizing ρ with
  | nil => exact c
  | cons i r ih => exact ih (c.kill i)
theorem Con.subio {io' : List (Nat × Addr)} (c : Con K B F io σ H ρ) (h : ∀ p ∈ io', p ∈ io) : Con K B F io' σ H ρ := ⟨c.len, c.base, c.frz, c.cell, c.sep, fun p hp => c.io p (h p hp)⟩
theorem Con.addio (c : Con K B F io σ H ρ) {j : Nat} {a : Addr} (h : σ[j]? = some (some (.ref a))) : Con K B F ((j, a) :: io) σ H ρ := ⟨c.len, c.base, c.frz, c.cell, c.sep, fun p hp => by
  rcases List.mem_cons.mp hp with e | hp
  · subst e; exact h
  · exact c.io p hp⟩
end
/-! ### what is walked -/
structure Walk (K : PySem.W.Frag) (C : Hp → Hp → Prop) (J : It) (xs : List D) : Prop where
  go : ∀ i F H, C F H → i < xs.length → J.go i H
  yld : ∀ i F H x H', C F H → i < xs.length → J.yld i H x H' → H' = H ∧ ∃ d, xs[i]? = some d ∧ Dp K F x d
  stop : ∀ i F H, C F H → xs.length ≤ i → J.stop i H
def SI (K : PySem.W.Frag) (lk : Option Nat) (wi : TI) (f : FA) : Prop := ∀ (B F : Hp) (io : List (Nat × Addr)) (σ : St) (H : Hp) (ρ : En) (xs : List D) (ρ' : En) (R : It → Hp → Prop), Con K B F io σ H ρ → f ρ = some (xs, ρ') →
  (∀ F' H' J C, Gr B F F' → Con K B F' io σ H' ρ' → Walk K C J xs → (∀ B2 F2 io2 σ2 H2 ρ2, Same F' F2 → Con K B2 F2 io2 σ2 H2 ρ2 → lockOk lk xs ρ2 = true → (∀ j, lk = some j → σ2[j]? = σ[j]?) → C F2 H2) → (∀ j, lk = some j → ∃ a, σ[j]? = some (some (.ref a))) → R J H') → wi σ H R
structure DI (X : Cx) (lk : Option Nat) (tg iter : Expr) (wi : TI) (f : FA) : Prop where
  pe : PI X tg iter wi
  se : SI X.K lk wi f
def rngD (lo : Int) (n : Nat) : List D := (List.range n).map fun i => .int (lo + (i : Nat))
def rngC (lo c : Int) (n : Nat) : List D := (List.range n).map fun i => .int (lo + (i : Nat) * c)
theorem rngD_len (lo : Int) (n : Nat) : (rngD lo n).length = n := by unfold rngD; rw [List.length_map, List.length_range]
theorem rngC_len (lo c : Int) (n : Nat) : (rngC lo c n).length = n := by unfold rngC; rw [List.length_map, List.length_range]
theorem rngD_get {lo : Int} {n i : Nat} (h : i < n) : (rngD lo n)[i]? = some (.int (lo + (i : Nat))) := by
  unfold rngD
  rw [List.getElem?_map, List.getElem?_range h]
  rfl
theorem rngC_get {lo c : Int} {n i : Nat} (h : i < n) : (rngC lo c n)[i]? = some (.int (lo + (i : Nat) * c)) := by
  unfold rngC
  rw [List.getElem?_map, List.getElem?_range h]
  rfl
theorem walk_rng {K : PySem.W.Frag} (C : Hp → Hp → Prop) (lo : Int) (n : Nat) : Walk K C (Itr lo n) (rngD lo n) where
  go := fun i F H _ h => by rw [rngD_len] at h; exact h
  yld := fun i F H x H' _ hi h => by
    obtain ⟨e1, e2⟩ := h
    subst e2
    rw [rngD_len] at hi
    exact ⟨e1, _, rngD_get hi, .int _⟩
  stop := fun i F H _ h => by rw [rngD_len] at h; exact h
theorem walk_rngC {K : PySem.W.Frag} (C : Hp → Hp → Prop) (lo c : Int) (n : Nat) : Walk K C (Itc lo c n) (rngC lo c n) where
  go := fun i F H _ h => by rw [rngC_len] at h; exact h
  yld := fun i F H x H' _ hi h => by
    obtain ⟨e1, e2⟩ := h
    subst e2
    rw [rngC_len] at hi
    exact ⟨e1, _, rngC_get hi, .int _⟩
  stop := fun i F H _ h => by rw [rngC_len] at h; exact h
theorem walk_lst {K : PySem.W.Frag} (C : Hp → Hp → Prop) {a : Addr} {ds : List D} (h : ∀ F H, C F H → ∃ vs, SqL K H a vs ∧ DpAll K F vs ds) : Walk K C (Itl K a) ds where
  go := fun i F H c hi => by
    obtain ⟨vs, q, d⟩ := h F H c
    have hl : i < vs.length := by rw [d.length]; exact hi
    exact ⟨vs, vs[i], q, List.getElem?_eq_getElem hl⟩
  yld := fun i F H x H' c hi y => by
    obtain ⟨vs, q, d⟩ := h F H c
    obtain ⟨e1, e2⟩ := y
    exact ⟨e1, d.get (e2 vs q)⟩
  stop := fun i F H c hi => by
    obtain ⟨vs, q, d⟩ := h F H c
    exact ⟨vs, q, by rw [d.length]; exact hi⟩
theorem walk_tup {K : PySem.W.Frag} (C : Hp → Hp → Prop) {a : Addr} {ds : List D} (h : ∀ F H, C F H → ∃ vs, SqT K H a vs ∧ DpAll K F vs ds) : Walk K C (Itt K a) ds where
  go := fun i F H c hi => by
    obtain ⟨vs, q, d⟩ := h F H c
    have hl : i < vs.length := by rw [d.length]; exact hi
    exact ⟨vs, vs[i], q, List.getElem?_eq_getElem hl⟩
  yld := fun i F H x H' c hi y => by
    obtain ⟨vs, q, d⟩ := h F H c
    obtain ⟨e1, e2⟩ := y
    exact ⟨e1, d.get (e2 vs q)⟩
  stop := fun i F H c hi => by
    obtain ⟨vs, q, d⟩ := h F H c
    exact ⟨vs, q, by rw [d.length]; exact hi⟩
/-- the signs of a text -/
def signsD (x : Str) : List D := x.cps.toList.map fun c => .str ⟨#[c]⟩
theorem signsD_len (x : Str) : (signsD x).length = x.cps.size := by unfold signsD; rw [List.length_map, Array.length_toList]
theorem walk_str {K : PySem.W.Frag} (C : Hp → Hp → Prop) (x : Str) : Walk K C (Its x) (signsD x) where
  go := fun i F H _ h => by rw [signsD_len] at h; exact h
  yld := fun i F H v H' _ hi h => by
    obtain ⟨e1, c, e2, e3⟩ := h
    subst e3
    refine ⟨e1, .str ⟨#[c]⟩, ?_, .str _⟩
    unfold signsD
    rw [List.getElem?_map, Array.getElem?_toList, e2]
    rfl
  stop := fun i F H _ h => by rw [signsD_len] at h; exact h
section
variable {X : Cx} {tg a b c e : Expr} {ta : TA} {fa : FA} {te : TE} {fe : FE} {p pos : Pos}
def iR1 (f : FA) : FA := fun ρ => (f ρ).bind fun p => match p.1 with
  | [.int j] => if -(2 ^ 62) ≤ j ∧ j < 2 ^ 62 then some (rngD 0 j.toNat, p.2) else none
  | _ => none
def iR2 (f : FA) : FA := fun ρ => (f ρ).bind fun p => match p.1 with
  | [.int i, .int j] => if -(2 ^ 62) ≤ i ∧ i < 2 ^ 62 ∧ -(2 ^ 62) ≤ j ∧ j < 2 ^ 62 then some (rngD i (j - i).toNat, p.2) else none
  | _ => none
def iR3 (f : FA) : FA := fun ρ => (f ρ).bind fun p => match p.1 with
  | [.int i, .int j, .int c] => if c ≠ 0 ∧ c.natAbs < 1073741824 ∧ Builtin.Range.small i j c = true then some (rngC i c (Builtin.Range.rangeSize i j c).toNat, p.2) else none
  | _ => none
theorem di_range1 (ha : DA X [a] ta fa) (hm : X.mg "range" = none) (hg : Gl X "range" := by rfl) (hs : starEach [a] X.env = [(false, eval a X.env)] := by rfl) : DI X none tg (.Call (.Name "range" p) [a] [] pos) (iRng1 ta) (iR1 fa) := by
  refine ⟨pi_range1 hg hm ha.pe hs, ?_⟩
  intro B F io σ H ρ xs ρ' R c e k
  obtain ⟨⟨ds, ρ1⟩, e1, e⟩ := Option.bind_eq_some_iff.mp e
  refine ha.se B F io σ H ρ ds ρ1 _ c e1 fun F1 H1 vs g1 c1 d1 => ?_
  match ds, d1, e with
  | [.int j], d1, e =>
    obtain ⟨x, rfl, q⟩ := one_of d1
    cases q
    have e : (if -(2 ^ 62) ≤ j ∧ j < 2 ^ 62 then some (rngD 0 j.toNat, ρ1) else none) = some (xs, ρ') := e
    by_cases hz : -(2 ^ 62) ≤ j ∧ j < 2 ^ 62
    · rw [if_pos hz] at e
      cases e
      exact ⟨j, rfl, hz.1, hz.2, k F1 H1 _ (fun _ _ => True) g1 c1 (walk_rng _ _ _) (fun _ _ _ _ _ _ _ _ _ _ => trivial) (fun _ h => nomatch h)⟩
    · rw [if_neg hz] at e; cases e
theorem di_range2 (ha : DA X [a, b] ta fa) (hm : X.mg "range" = none) (hg : Gl X "range" := by rfl) (hs : starEach [a, b] X.env = [(false, eval a X.env), (false, eval b X.env)] := by rfl) (hs2 : starEach [b] X.env = [(false, eval b X.env)] := by rfl) :
    DI X none tg (.Call (.Name "range" p) [a, b] [] pos) (iRng2 ta) (iR2 fa) := by
  refine ⟨pi_range2 hg hm ha.pe hs hs2, ?_⟩
  intro B F io σ H ρ xs ρ' R c e k
  obtain ⟨⟨ds, ρ1⟩, e1, e⟩ := Option.bind_eq_some_iff.mp e
  refine ha.se B F io σ H ρ ds ρ1 _ c e1 fun F1 H1 vs g1 c1 d1 => ?_
  match ds, d1, e with
  | [.int i, .int j], d1, e =>
    obtain ⟨x, y, rfl, q, q'⟩ := two_of d1
    cases q
    cases q'
    have e : (if -(2 ^ 62) ≤ i ∧ i < 2 ^ 62 ∧ -(2 ^ 62) ≤ j ∧ j < 2 ^ 62 then some (rngD i (j - i).toNat, ρ1) else none) = some (xs, ρ') := e
    by_cases hz : -(2 ^ 62) ≤ i ∧ i < 2 ^ 62 ∧ -(2 ^ 62) ≤ j ∧ j < 2 ^ 62
    · rw [if_pos hz] at e
      cases e
      exact ⟨i, j, rfl, hz, k F1 H1 _ (fun _ _ => True) g1 c1 (walk_rng _ _ _) (fun _ _ _ _ _ _ _ _ _ _ => trivial) (fun _ h => nomatch h)⟩
    · rw [if_neg hz] at e; cases e
theorem three_of {K : PySem.W.Frag} {H : Hp} {xs : List V} {d e f : D} (h : DpAll K H xs [d, e, f]) : ∃ x y z, xs = [x, y, z] ∧ Dp K H x d ∧ Dp K H y e ∧ Dp K H z f := by
  cases h with
  | cons q r => obtain ⟨y, z, rfl, q1, q2⟩ := two_of r; exact ⟨_, y, z, rfl, q, q1, q2⟩
theorem rangeSize_nn (i j c : Int) : 0 ≤ Builtin.Range.rangeSize i j c := by
  unfold Builtin.Range.rangeSize
  split <;> first | omega | (split <;> first | omega | (have := Int.ediv_nonneg (a := j - i - 1) (b := c) (by omega) (by omega); omega) | (have := Int.ediv_nonneg (a := i - j - 1) (b := -c) (by omega) (by omega); omega))
theorem di_range3 (ha : DA X [a, b, c] ta fa) (hm : X.mg "range" = none) (hg : Gl X "range" := by rfl) (hs : starEach [a, b, c] X.env = (false, eval a X.env) :: starEach [b, c] X.env := by rfl) (hpl : (backTo pos (starEach [b, c] X.env)).any (·.1) = false := by rfl) :
    DI X none tg (.Call (.Name "range" p) [a, b, c] [] pos) (iRng3 ta) (iR3 fa) := by
  refine ⟨pi_range3 hg hm ha.pe hs hpl, ?_⟩
  intro B F io σ H ρ xs ρ' R cn e k
  obtain ⟨⟨ds, ρ1⟩, e1, e⟩ := Option.bind_eq_some_iff.mp e
  refine ha.se B F io σ H ρ ds ρ1 _ cn e1 fun F1 H1 vs g1 c1 d1 => ?_
  match ds, d1, e with
  | [.int i, .int j, .int c], d1, e =>
    obtain ⟨x, y, z, rfl, q, q', q''⟩ := three_of d1
    cases q
    cases q'
    cases q''
    have e : (if c ≠ 0 ∧ c.natAbs < 1073741824 ∧ Builtin.Range.small i j c = true then some (rngC i c (Builtin.Range.rangeSize i j c).toNat, ρ1) else none) = some (xs, ρ') := e
    by_cases hz : c ≠ 0 ∧ c.natAbs < 1073741824 ∧ Builtin.Range.small i j c = true
    · rw [if_pos hz] at e
      cases e
      exact ⟨i, j, c, _, rfl, ⟨hz.1, hz.2.1, hz.2.2, (Int.toNat_of_nonneg (rangeSize_nn i j c)).symm⟩, k F1 H1 _ (fun _ _ => True) g1 c1 (walk_rngC _ _ _ _) (fun _ _ _ _ _ _ _ _ _ _ => trivial) (fun _ h => nomatch h)⟩
    · rw [if_neg hz] at e; cases e
/-- a list, a tuple or a text that stays -/
def iSq (f : FE) : FA := fun ρ => (f ρ).bind fun p => match p.1 with
  | .list ds => some (ds, p.2)
  | .tuple ds => some (ds, p.2)
  | .str x => some (signsD x, p.2)
  | _ => none
abbrev iSqD (K : PySem.W.Frag) (te : TE) : TI := fun σ H R => iList K te σ H R ∨ iTup K te σ H R ∨ iStr te σ H R
theorem pi_sq (he : PE X e te) : PI X tg e (iSqD X.K te) := ⟨fun pins s σ H R I h => by
  rcases h with h | h | h
  · exact (pi_list he).run pins s σ H R I h
  · exact (pi_tup he).run pins s σ H R I h
  · exact (pi_str he).run pins s σ H R I h⟩
theorem di_sq (he : DE X e te fe) : DI X none tg e (iSqD X.K te) (iSq fe) := by
  refine ⟨pi_sq he.pe, ?_⟩
  intro B F io σ H ρ xs ρ' R c e k
  obtain ⟨⟨d, ρ1⟩, e1, e⟩ := Option.bind_eq_some_iff.mp e
  cases d with
  | list ds =>
    cases e
    refine .inl (he.se B F io σ H ρ _ _ _ c e1 fun F1 H1 v g1 c1 d1 => ?_)
    cases d1 with
    | @lst a vs _ q r =>
      exact ⟨a, rfl, ⟨vs, c1.frz.seq q⟩, k F1 H1 _ (fun F2 H2 => Same F1 F2 ∧ Same F2 H2) g1 c1 (walk_lst _ fun F2 H2 h => ⟨vs, (h.1.trans h.2).seq q, dpAll_mono h.1 r⟩) (fun B2 F2 io2 σ2 H2 ρ2 s2 c2 _ _ => ⟨s2, c2.frz⟩) (fun _ h => nomatch h)⟩
  | tuple ds =>
    cases e
    refine .inr (.inl (he.se B F io σ H ρ _ _ _ c e1 fun F1 H1 v g1 c1 d1 => ?_))
    cases d1 with
    | @tup a vs _ q r =>
      exact ⟨a, rfl, ⟨vs, sqT_mono c1.frz q⟩, k F1 H1 _ (fun F2 H2 => Same F1 F2 ∧ Same F2 H2) g1 c1 (walk_tup _ fun F2 H2 h => ⟨vs, sqT_mono (h.1.trans h.2) q, dpAll_mono h.1 r⟩) (fun B2 F2 io2 σ2 H2 ρ2 s2 c2 _ _ => ⟨s2, c2.frz⟩) (fun _ h => nomatch h)⟩
  | str x =>
    cases e
    refine .inr (.inr (he.se B F io σ H ρ _ _ _ c e1 fun F1 H1 v g1 c1 d1 => ?_))
    cases d1
    exact ⟨x, rfl, k F1 H1 _ (fun _ _ => True) g1 c1 (walk_str _ _) (fun _ _ _ _ _ _ _ _ _ _ => trivial) (fun _ h => nomatch h)⟩
  | _ => cases e
/-- an own list, as it stands -/
def iOwn (j : Nat) : FA := fun ρ => (ownL j ρ).map fun ds => (ds, ρ)
theorem di_own (j : Nat) {x : Str} (hN : X.N[j]? = some x := by rfl) (hv : Vis X.env.scope x := by first | exact Or.inl rfl | exact Or.inr (Or.inl rfl) | exact Or.inr (Or.inr rfl)) (hd : (x == ("__debug__" : Str)) = false := by decide) (hcd : (x == ("__classdict__" : Str)) = false := by decide) :
    DI X (some j) tg (.Name x p) (iList X.K (tVar j)) (iOwn j) := by
  refine ⟨pi_list (pe_var hN hv hd hcd), ?_⟩
  intro B F io σ H ρ xs ρ' R c e k
  obtain ⟨ds, e1, e2⟩ := Option.map_eq_some_iff.mp e
  cases e2
  obtain ⟨a, vs, s1, h1, d1⟩ := own_list c e1
  refine ⟨.ref a, s1, a, rfl, ⟨vs, .inl (.inl h1)⟩, k F H _ (fun F2 H2 => ∃ vs, SqL X.K H2 a vs ∧ DpAll X.K F2 vs xs) (Gr.refl _ _) c (walk_lst _ fun F2 H2 h => h) (fun B2 F2 io2 σ2 H2 ρ2 s2 c2 lk hs => ?_) (fun i h => by cases h; exact ⟨a, s1⟩)⟩
  obtain ⟨a2, vs2, s3, h3, d3⟩ := own_list (j := j) (ds := xs) c2 (by unfold ownL; rw [lockOk_at lk])
  have q := hs j rfl
  rw [s1, s3] at q
  cases q
  exact ⟨vs2, .inl (.inl h3), d3⟩
end
/-! ### for -/
def loopF (lk : Option Nat) (xs0 : List D) (ks : List Nat) (b : D → En → Option Out) : List D → En → Option Out
  | [], ρ => if lockOk lk xs0 (killL ks ρ) = true then some (.nx (killL ks ρ)) else none
  | x :: r, ρ => if lockOk lk xs0 (killL ks ρ) = true then (b x (killL ks ρ)).bind fun o => match o with
    | .nx ρ' => loopF lk xs0 ks b r ρ'
    | .ct ρ' => loopF lk xs0 ks b r ρ'
    | .bk ρ' => some (.nx (killL ks ρ'))
    | .rt c ρ' => some (.rt c ρ') else none
def sFor (lk : Option Nat) (ks : List Nat) (it : FA) (g : FG) (b : FS) : FS := fun ρ => (it ρ).bind fun p => loopF lk p.1 ks (fun x ρ => (g x ρ).bind b) p.1 p.2
def lkL : Option Nat → List Nat
  | none => []
  | some j => [j]
section
variable {X : Cx} {L : List Nat} {tg iter : Expr} {body : List Stmt} {wi : TI} {fi : FA} {lk : Option Nat} {ws : List Nat} {t1 : TG} {g1 : FG} {tb : TS} {fb : FS} {pos : Pos}
theorem ss_for {K : PySem.W.Frag} (ks : List Nat) (hi : SI K lk wi fi) (hg : SG K (lkL lk ++ L) ws t1 g1) (hb : SS K (lkL lk ++ L) tb fb) : SS K L (tFor wi t1 tb) (sFor lk ks fi g1 fb) := by
  intro B F io σ H ρ o Dn hL c e p
  obtain ⟨⟨xs, ρ0⟩, e1, e⟩ := Option.bind_eq_some_iff.mp e
  refine hi B F io σ H ρ xs ρ0 _ c e1 fun F0 H0 J C g0 c0 wk cl hlk => ?_
  -- the lock's own pair
  obtain ⟨io', hio', hsub, hj⟩ : ∃ io' : List (Nat × Addr), io'.map (·.1) = lkL lk ++ L ∧ (∀ q ∈ io, q ∈ io') ∧ (∀ q ∈ io', σ[q.1]? = some (some (.ref q.2))) := by
    cases lk with
    | none => exact ⟨io, by rw [hL]; rfl, fun _ h => h, c.io⟩
    | some j =>
      obtain ⟨a, ha⟩ := hlk j rfl
      refine ⟨(j, a) :: io, by rw [List.map_cons, hL]; rfl, fun _ h => List.mem_cons_of_mem _ h, fun q hq => ?_⟩
      rcases List.mem_cons.mp hq with rfl | hq
      · exact ha
      · exact c.io q hq
  have lkσ : ∀ {σ2 : St} {H2 F2 B2 : Hp} {ρ2 : En}, Con K B2 F2 io' σ2 H2 ρ2 → ∀ j, lk = some j → σ2[j]? = σ[j]? := by
    intro σ2 H2 F2 B2 ρ2 c2 j hjk
    subst hjk
    have : (j : Nat) ∈ io'.map (·.1) := by rw [hio']; exact List.mem_append_left _ (List.mem_singleton.mpr rfl)
    obtain ⟨q, hq, e⟩ := List.mem_map.mp this
    subst e
    rw [c2.io q hq, hj q hq]
  have c0' : Con K B F0 io' σ H0 ρ0 := ⟨c0.len, c0.base, c0.frz, c0.cell, c0.sep, hj⟩
  have p0 := p.mono g0
  refine ⟨fun i m σ H => m = xs.length - i ∧ i ≤ xs.length ∧ ∃ F2 ρ2, Gr B F0 F2 ∧ Con K B F2 io' σ H ρ2 ∧ loopF lk xs ks (fun x ρ => (g1 x ρ).bind fb) (xs.drop i) ρ2 = some o, ⟨xs.length, by simp, Nat.zero_le _, F0, ρ0, Gr.refl _ _, c0', e⟩, ?_⟩
  rintro i m σ2 H2 ⟨rfl, hi2, F2, ρ2, g2, c2, e2⟩
  have ck := c2.killL ks
  by_cases hlt : i < xs.length
  · rw [List.drop_eq_getElem_cons hlt] at e2
    unfold loopF at e2
    by_cases hlo : lockOk lk xs (killL ks ρ2) = true
    · rw [if_pos hlo] at e2
      obtain ⟨o1, e3, e4⟩ := Option.bind_eq_some_iff.mp e2
      obtain ⟨ρ3, e5, e6⟩ := Option.bind_eq_some_iff.mp e3
      have cc := cl B F2 io' σ2 H2 (killL ks ρ2) g2.sub ck hlo (lkσ c2)
      refine .inr ⟨wk.go i F2 H2 cc hlt, fun σ' H' => ∃ m', m' < xs.length - i ∧ (m' = xs.length - (i + 1) ∧ i + 1 ≤ xs.length ∧ ∃ F2 ρ2, Gr B F0 F2 ∧ Con K B F2 io' σ' H' ρ2 ∧ loopF lk xs ks (fun x ρ => (g1 x ρ).bind fb) (xs.drop (i + 1)) ρ2 = some o), fun σ' H' h => h, fun x H' y => ?_⟩
      obtain ⟨e7, d, e8, dd⟩ := wk.yld i F2 H2 x H' cc hlt y
      subst e7
      rw [List.getElem?_eq_getElem hlt] at e8
      cases e8
      refine hg B F2 io' σ2 H' (killL ks ρ2) x xs[i] ρ3 _ hio' ck dd e5 fun F3 σ3 H3 g3 c3 _ => ?_
      have again : ∀ {F4 : Hp} {σ4 : St} {H4 : Hp} {ρ4 : En}, Gr B F3 F4 → Con K B F4 io' σ4 H4 ρ4 → loopF lk xs ks (fun x ρ => (g1 x ρ).bind fb) (xs.drop (i + 1)) ρ4 = some o →
          ∃ m', m' < xs.length - i ∧ (m' = xs.length - (i + 1) ∧ i + 1 ≤ xs.length ∧ ∃ F2 ρ2, Gr B F0 F2 ∧ Con K B F2 io' σ4 H4 ρ2 ∧ loopF lk xs ks (fun x ρ => (g1 x ρ).bind fb) (xs.drop (i + 1)) ρ2 = some o) :=
        fun {F4 σ4 H4 ρ4} g4 c4 e9 => ⟨xs.length - (i + 1), by omega, rfl, hlt, F4, ρ4, (g2.trans g3).trans g4, c4, e9⟩
      refine hb B F3 io' σ3 H3 ρ3 o1 _ hio' c3 e6 ?_
      cases o1 with
      | nx ρ4 => exact fun F4 σ4 H4 g4 c4 => again g4 c4 e4
      | ct ρ4 => exact fun F4 σ4 H4 g4 c4 => again g4 c4 e4
      | bk ρ4 =>
        cases e4
        exact fun F4 σ4 H4 g4 c4 => p0 F4 σ4 H4 ((g2.trans g3).trans g4) ((c4.killL ks).subio hsub)
      | rt u ρ4 =>
        cases e4
        exact fun F4 σ4 H4 v g4 c4 r => p0 F4 σ4 H4 v ((g2.trans g3).trans g4) (c4.subio hsub) r
    · rw [if_neg hlo] at e2; cases e2
  · have hi3 : i = xs.length := by omega
    subst hi3
    rw [List.drop_length] at e2
    unfold loopF at e2
    by_cases hlo : lockOk lk xs (killL ks ρ2) = true
    · rw [if_pos hlo] at e2
      cases e2
      have cc := cl B F2 io' σ2 H2 (killL ks ρ2) g2.sub ck hlo (lkσ c2)
      exact .inl ⟨wk.stop _ F2 H2 cc (Nat.le_refl _), p0 F2 σ2 H2 g2 (ck.subio hsub)⟩
    · rw [if_neg hlo] at e2; cases e2
theorem ds_for (ks : List Nat) (hp : PassesOwn (model X.prog X.w) X.A X.env X.xe) (hc : X.calm = true) (hi : DI X lk tg iter wi fi) (hg : DG X (lkL lk ++ L) ws tg t1 g1) (hb : DSs X (lkL lk ++ L) body tb fb)
    (hs : ∀ x, foldedSetIterable iter X.env x = pure x := by intro _; rfl) : DS X L (.For tg iter body [] pos) (tFor wi t1 tb) (sFor lk ks fi g1 fb) :=
  ⟨ps_for hp hc hi.pe hg.pe hb.pe hs, ss_for ks hi.se hg.se hb.se⟩
end
/-! ### while -/
def whileF (ks : List Nat) (c : FT) (b : FS) : Nat → En → Option Out
  | 0, _ => none
  | n + 1, ρ => (c (killL ks ρ)).bind fun p => if p.1 = true then (b p.2).bind fun o => match o with
    | .nx ρ' => whileF ks c b n ρ'
    | .ct ρ' => whileF ks c b n ρ'
    | .bk ρ' => some (.nx (killL ks ρ'))
    | .rt u ρ' => some (.rt u ρ') else some (.nx p.2)
open Classical in
noncomputable def sWhile (ks : List Nat) (c : FT) (b : FS) : FS := fun ρ => if h : ∃ n o, whileF ks c b n ρ = some o then whileF ks c b h.choose ρ else none
theorem whileF_mono {ks : List Nat} {c : FT} {b : FS} : ∀ {n m : Nat} {ρ : En} {o : Out}, whileF ks c b n ρ = some o → n ≤ m → whileF ks c b m ρ = some o
  | 0, _, _, _, h, _ => by cases h
  | n + 1, 0, _, _, _, h => by omega
  | n + 1, m + 1, ρ, o, h, hm => by
    unfold whileF at h ⊢
    obtain ⟨p, e1, h⟩ := Option.bind_eq_some_iff.mp h
    rw [e1]
    show (if p.1 = true then _ else _) = _
    by_cases hp : p.1 = true
    · rw [if_pos hp] at h ⊢
      obtain ⟨o1, e2, h⟩ := Option.bind_eq_some_iff.mp h
      rw [e2]
      cases o1 with
      | nx ρ' => exact whileF_mono (n := n) (m := m) h (by omega)
      | ct ρ' => exact whileF_mono (n := n) (m := m) h (by omega)
      | bk ρ' => exact h
      | rt u ρ' => exact h
    · rw [if_neg hp] at h ⊢; exact h
theorem sWhile_of {ks : List Nat} {c : FT} {b : FS} {n : Nat} {ρ : En} {o : Out} (h : whileF ks c b n ρ = some o) : sWhile ks c b ρ = some o := by
  have hx : ∃ n o, whileF ks c b n ρ = some o := ⟨n, o, h⟩
  unfold sWhile
  rw [dif_pos hx]
  obtain ⟨o', e⟩ := hx.choose_spec
  rw [e]
  have h1 := whileF_mono e (Nat.le_max_left hx.choose n)
  have h2 := whileF_mono h (Nat.le_max_right hx.choose n)
  rw [h1] at h2
  exact h2
theorem of_sWhile {ks : List Nat} {c : FT} {b : FS} {ρ : En} {o : Out} (h : sWhile ks c b ρ = some o) : ∃ n, whileF ks c b n ρ = some o := by
  unfold sWhile at h
  split at h
  · exact ⟨_, h⟩
  · cases h
/-- one turn -/
theorem sWhile_step {ks : List Nat} {c : FT} {b : FS} {ρ ρ1 : En} {p : Bool × En} {o : Out} (h1 : c (killL ks ρ) = some p) (h2 : p.1 = true) (h3 : b p.2 = some (.nx ρ1)) (h4 : sWhile ks c b ρ1 = some o) : sWhile ks c b ρ = some o := by
  obtain ⟨n, e⟩ := of_sWhile h4
  refine sWhile_of (n := n + 1) ?_
  unfold whileF
  rw [h1]
  show (if p.1 = true then _ else _) = _
  rw [if_pos h2, h3]
  exact e
theorem sWhile_done {ks : List Nat} {c : FT} {b : FS} {ρ : En} {p : Bool × En} (h1 : c (killL ks ρ) = some p) (h2 : p.1 = false) : sWhile ks c b ρ = some (.nx p.2) := by
  refine sWhile_of (n := 1) ?_
  unfold whileF
  rw [h1]
  show (if p.1 = true then _ else _) = _
  rw [h2]
  rfl
theorem sWhile_rt {ks : List Nat} {c : FT} {b : FS} {ρ ρ1 : En} {p : Bool × En} {u : Cell} (h1 : c (killL ks ρ) = some p) (h2 : p.1 = true) (h3 : b p.2 = some (.rt u ρ1)) : sWhile ks c b ρ = some (.rt u ρ1) := by
  refine sWhile_of (n := 1) ?_
  unfold whileF
  rw [h1]
  show (if p.1 = true then _ else _) = _
  rw [if_pos h2, h3]
  rfl
section
variable {X : Cx} {L : List Nat} {c : Expr} {body : List Stmt} {tc : TT} {fc : FT} {tb : TS} {fb : FS} {pos : Pos}
theorem ds_while (ks : List Nat) (hp : PassesOwn (model X.prog X.w) X.A X.env X.xe) (hc : DT X c tc fc) (hb : DSs X L body tb fb) : DS X L (.While c body [] pos) (tWhile tc tb) (sWhile ks fc fb) := by
  refine ⟨ps_while hp hc.pe hb.pe, ?_⟩
  intro B F io σ H ρ o Dn hL cn e p
  obtain ⟨n, e⟩ := of_sWhile e
  refine ⟨fun m σ H => ∃ F2 ρ2, Gr B F F2 ∧ Con X.K B F2 io σ H ρ2 ∧ whileF ks fc fb m ρ2 = some o, ⟨n, F, ρ, Gr.refl _ _, cn, e⟩, ?_⟩
  rintro m σ2 H2 ⟨F2, ρ2, g2, c2, e2⟩
  cases m with
  | zero => cases e2
  | succ m =>
    unfold whileF at e2
    obtain ⟨q, e1, e2⟩ := Option.bind_eq_some_iff.mp e2
    refine hc.se B F2 io σ2 H2 _ q.1 q.2 _ (c2.killL ks) e1 fun F3 H3 g3 c3 => ?_
    by_cases hq : q.1 = true
    · rw [if_pos hq] at e2 ⊢
      obtain ⟨o1, e3, e4⟩ := Option.bind_eq_some_iff.mp e2
      refine ⟨fun σ' H' => ∃ m', m' < m + 1 ∧ ∃ F2 ρ2, Gr B F F2 ∧ Con X.K B F2 io σ' H' ρ2 ∧ whileF ks fc fb m' ρ2 = some o, fun σ' H' h => h, ?_⟩
      refine hb.se B F3 io σ2 H3 q.2 o1 _ hL c3 e3 ?_
      cases o1 with
      | nx ρ4 => exact fun F4 σ4 H4 g4 c4 => ⟨m, Nat.lt_succ_self m, F4, ρ4, (g2.trans g3).trans g4, c4, e4⟩
      | ct ρ4 => exact fun F4 σ4 H4 g4 c4 => ⟨m, Nat.lt_succ_self m, F4, ρ4, (g2.trans g3).trans g4, c4, e4⟩
      | bk ρ4 =>
        cases e4
        exact fun F4 σ4 H4 g4 c4 => p F4 σ4 H4 ((g2.trans g3).trans g4) (c4.killL ks)
      | rt u ρ4 =>
        cases e4
        exact fun F4 σ4 H4 v g4 c4 r => p F4 σ4 H4 v ((g2.trans g3).trans g4) c4 r
    · rw [if_neg hq] at e2 ⊢
      cases e2
      exact p F3 σ2 H3 (g2.trans g3) c3
end
end L2.Pd

namespace L2.Pd
open PySem PySem.Spec PyProof.Rows
/-! ## Comprehensions -/
theorem killL_len : ∀ (vs : List Nat) (ρ : En), (killL vs ρ).length = ρ.length
  | [], _ => rfl
  | i :: r, ρ => by
    show (killL r (ρ.set i .dead)).length = _
    rw [killL_len r, List.length_set]
theorem killL_get : ∀ (vs : List Nat) (ρ : En) (i : Nat), (killL vs ρ)[i]? = if i ∈ vs then (ρ[i]?).map (fun _ => Cell.dead) else ρ[i]?
  | [], ρ, i => by rw [if_neg (by simp)]; rfl
  | j :: r, ρ, i => by
    show (killL r (ρ.set j .dead))[i]? = _
    rw [killL_get r]
    by_cases h : i = j
    · subst h
      rw [if_pos (show i ∈ i :: r from List.mem_cons_self)]
      by_cases hl : i < ρ.length
      · rw [List.getElem?_set_self hl, List.getElem?_eq_getElem hl]
        split <;> rfl
      · rw [List.getElem?_eq_none (by rw [List.length_set]; omega), List.getElem?_eq_none (by omega)]
        split <;> rfl
    · rw [List.getElem?_set_ne (Ne.symm h)]
      by_cases hr : i ∈ r
      · rw [if_pos hr, if_pos (List.mem_cons_of_mem _ hr)]
      · rw [if_neg hr, if_neg (by simp only [List.mem_cons, not_or]; exact ⟨h, hr⟩)]
theorem wipe_get (σ : St) : ∀ (vs : List Nat) (i : Nat), i ∉ vs → (wipe σ vs)[i]? = σ[i]?
  | [], _, _ => rfl
  | v :: vs, i, h => by
    simp only [List.mem_cons, not_or] at h
    show ((wipe σ vs).set v none)[i]? = _
    rw [List.getElem?_set_ne (Ne.symm h.1), wipe_get σ vs i h.2]
theorem wipe_in (σ : St) : ∀ (vs : List Nat) (i : Nat), i ∈ vs → i < σ.length → (wipe σ vs)[i]? = some none
  | v :: vs, i, h, hl => by
    show ((wipe σ vs).set v none)[i]? = _
    by_cases e : v = i
    · subst e
      rw [List.getElem?_set_self (by rw [wipe_length]; exact hl)]
    · rw [List.getElem?_set_ne e]
      exact wipe_in σ vs i ((List.mem_cons.mp h).resolve_left fun z => e z.symm) hl
theorem wipe_off {σ σ' : St} {ws vs : List Nat} (h : Off ws σ σ') (hw : ∀ i ∈ ws, i ∈ vs) : wipe σ' vs = wipe σ vs := by
  refine List.ext_getElem? fun i => ?_
  by_cases hi : i ∈ vs
  · by_cases hl : i < σ.length
    · rw [wipe_in σ vs i hi hl, wipe_in σ' vs i hi (by rw [h.1]; exact hl)]
    · rw [List.getElem?_eq_none (show (wipe σ' vs).length ≤ i by rw [wipe_length, h.1]; omega), List.getElem?_eq_none (show (wipe σ vs).length ≤ i by rw [wipe_length]; omega)]
  · rw [wipe_get σ vs i hi, wipe_get σ' vs i hi, h.2 i fun z => hi (hw i z)]
theorem wipe_wipe (σ : St) (vs : List Nat) : wipe (wipe σ vs) vs = wipe σ vs := by
  refine List.ext_getElem? fun i => ?_
  by_cases hi : i ∈ vs
  · by_cases hl : i < σ.length
    · rw [wipe_in σ vs i hi hl, wipe_in _ vs i hi (by rw [wipe_length]; exact hl)]
    · rw [List.getElem?_eq_none (by rw [wipe_length, wipe_length]; omega), List.getElem?_eq_none (by rw [wipe_length]; omega)]
  · rw [wipe_get _ vs i hi]
section
variable {K : PySem.W.Frag} {B F F' H H' : Hp} {io io' : List (Nat × Addr)} {σ σ' : St} {ρ : En} {vs : List Nat}
/-- the slots may change where the cells are forgotten -/
theorem Con.move (c : Con K B F io σ H ρ) (vs : List Nat) (hl : σ'.length = σ.length) (h : ∀ i, i ∉ vs → σ'[i]? = σ[i]?) (hio : ∀ p ∈ io', σ'[p.1]? = some (some (.ref p.2))) : Con K B F io' σ' H (Pd.killL vs ρ) := by
  have own_off : ∀ {i : Nat} {e : Cell}, (Pd.killL vs ρ)[i]? = some e → isOwn e = true → i ∉ vs ∧ ρ[i]? = some e := fun {i e} he ho => by
    rw [killL_get] at he
    by_cases hi : i ∈ vs
    · rw [if_pos hi] at he
      obtain ⟨_, _, e2⟩ := Option.map_eq_some_iff.mp he
      subst e2; cases ho
    · rw [if_neg hi] at he; exact ⟨hi, he⟩
  refine ⟨by rw [hl, killL_len, c.len], c.base, c.frz, fun i e he => ?_, fun i j e1 e2 a h1 h2 o1 o2 s1 s2 => ?_, hio⟩
  · rw [killL_get] at he
    by_cases hi : i ∈ vs
    · rw [if_pos hi] at he
      obtain ⟨u, hu, e2⟩ := Option.map_eq_some_iff.mp he
      subst e2
      have hlt : i < σ'.length := by rw [hl, c.len]; exact (List.getElem?_eq_some_iff.mp hu).1
      exact ⟨σ'[i], List.getElem?_eq_getElem hlt, trivial⟩
    · rw [if_neg hi] at he
      rw [h i hi]
      exact c.cell i e he
  · obtain ⟨n1, h1⟩ := own_off h1 o1
    obtain ⟨n2, h2⟩ := own_off h2 o2
    rw [h i n1] at s1
    rw [h j n2] at s2
    exact c.sep i j e1 e2 a h1 h2 o1 o2 s1 s2
/-- the list that a comprehension makes stands in the base meanwhile -/
theorem Con.toBase (c : Con K B F io σ H ρ) {a : Addr} {o : HO} (n : H a = none) : Con K (upd B a o) F io σ (upd H a o) ρ := by
  refine ⟨c.len, same_upd2 c.base, c.frz.trans (same_upd n), fun i e he => ?_, c.sep, c.io⟩
  obtain ⟨x, hx, ok⟩ := c.cell i e he
  refine ⟨x, hx, ?_⟩
  by_cases ho : isOwn e = true
  · rw [cellOk_own ho] at ok ⊢
    obtain ⟨p, w, z1, z2, z3, z4, z5⟩ := ok
    have np : p ≠ a := ne_of_none z2 n
    exact ⟨p, w, z1, by rw [upd_ne np]; exact z2, z3, z4, by rw [upd_ne np]; exact z5⟩
  · cases e with
    | dead => trivial
    | sh d => exact ok
    | fd tk kvs => exact ok
    | _ => exact absurd rfl ho
theorem Con.reBase {a : Addr} {o o' : HO} (c : Con K (upd B a o) F io σ H ρ) (fa : F a = none) : Con K (upd B a o') F io σ (upd H a o') ρ := by
  refine ⟨c.len, fun b x e => ?_, fun b x e => ?_, fun i e he => ?_, c.sep, c.io⟩
  · by_cases q : b = a
    · subst q; rw [upd_same] at e ⊢; exact e
    · rw [upd_ne q] at e ⊢; exact c.base b x (by rw [upd_ne q]; exact e)
  · rw [upd_ne (ne_of_none e fa)]; exact c.frz b x e
  · obtain ⟨x, hx, ok⟩ := c.cell i e he
    refine ⟨x, hx, ?_⟩
    by_cases ho : isOwn e = true
    · rw [cellOk_own ho] at ok ⊢
      obtain ⟨p, w, z1, z2, z3, z4, z5⟩ := ok
      have np : p ≠ a := fun z => by subst z; rw [upd_same] at z5; cases z5
      rw [upd_ne np] at z5
      exact ⟨p, w, z1, by rw [upd_ne np]; exact z2, z3, z4, by rw [upd_ne np]; exact z5⟩
    · cases e with
      | dead => trivial
      | sh d => exact ok
      | fd tk kvs => exact ok
      | _ => exact absurd rfl ho
theorem Con.unBase {a : Addr} {o : HO} (c : Con K (upd B a o) F io σ H ρ) (n : B a = none) : Con K B F io σ H ρ := by
  refine ⟨c.len, (same_upd n).trans c.base, c.frz, fun i e he => ?_, c.sep, c.io⟩
  obtain ⟨x, hx, ok⟩ := c.cell i e he
  refine ⟨x, hx, ?_⟩
  by_cases ho : isOwn e = true
  · rw [cellOk_own ho] at ok ⊢
    obtain ⟨p, w, z1, z2, z3, z4, z5⟩ := ok
    have np : p ≠ a := fun z => by subst z; rw [upd_same] at z5; cases z5
    rw [upd_ne np] at z5
    exact ⟨p, w, z1, z2, z3, z4, z5⟩
  · cases e with
    | dead => trivial
    | sh d => exact ok
    | fd tk kvs => exact ok
    | _ => exact absurd rfl ho
theorem Con.notOwned_base {a : Addr} {o : HO} (c : Con K (upd B a o) F io σ H ρ) : NotOwned σ ρ a := fun i e he ho q => by
  obtain ⟨p, w, z1, z2, z3, z4, z5⟩ := c.own he ho
  rw [q] at z1
  cases z1
  rw [upd_same] at z5
  cases z5
theorem Gr.unBase {a : Addr} {o : HO} (g : Gr (upd B a o) F F') (n : B a = none) : Gr B F F' := ⟨g.sub, fun b x e => by
  rcases g.new b x e with q | q
  · exact .inl q
  · by_cases z : b = a
    · subst z; exact .inr n
    · rw [upd_ne z] at q; exact .inr q⟩
theorem Gr.at {a : Addr} {o : HO} (g : Gr (upd B a o) F F') (n : F a = none) : F' a = none := by
  cases q : F' a with
  | none => rfl
  | some x =>
    rcases g.new a x q with z | z
    · rw [n] at z; cases z
    · rw [upd_same] at z; cases z
end
def cYes : FT := fun ρ => some (true, ρ)
structure DTs (X : Cx) (ifs : List Expr) (t : TT) (f : FT) : Prop where
  pe : PTs X ifs t
  se : ST X.K t f
theorem dts_nil {X : Cx} : DTs X [] tYes cYes := ⟨pts_nil, fun B F io σ H ρ b ρ' Q c e k => by cases e; exact k F H (Gr.refl _ _) c⟩
theorem dts_one {X : Cx} {c : Expr} {t : TT} {f : FT} (h : DT X c t f) : DTs X [c] t f := ⟨pts_one h.pe, h.se⟩
def compG (lk : Option Nat) (xs0 : List D) (vs : List Nat) (g : FG) (step : List D → En → Option (List D × En)) : List D → List D → En → Option (List D × En)
  | [], acc, ρ => if lockOk lk xs0 (killL vs ρ) = true then some (acc, killL vs ρ) else none
  | x :: r, acc, ρ => if lockOk lk xs0 (killL vs ρ) = true then (g x (killL vs ρ)).bind fun ρ1 => (step acc ρ1).bind fun q => compG lk xs0 vs g step r q.1 q.2 else none
def stp (c : FT) (e : FE) (acc : List D) (ρ : En) : Option (List D × En) := (c ρ).bind fun p => if p.1 = true then (e p.2).bind fun q => if acc.length < sizeLine then some (acc ++ [q.1], q.2) else none else some (acc, p.2)
/-- the outer values of a comprehension's names are as they were -/
def putB : List Nat → En → En → En
  | [], _, ρ => ρ
  | i :: r, ρ0, ρ => match ρ0[i]? with
    | some (.sh d) => putB r ρ0 (ρ.set i (.sh d))
    | _ => putB r ρ0 ρ
theorem Con.recall {K : PySem.W.Frag} {B F H : Hp} {io : List (Nat × Addr)} {σ : St} {ρ : En} (c : Con K B F io σ H ρ) {i : Nat} {v : V} {d : D} (hs : σ[i]? = some (some v)) (h : Dp K F v d) : Con K B F io σ H (ρ.set i (.sh d)) := by
  refine ⟨by rw [List.length_set, c.len], c.base, c.frz, fun j e he => ?_, fun j k e1 e2 a h1 h2 o1 o2 s1 s2 => ?_, c.io⟩
  · rcases get_set_cases he with ⟨rfl, rfl, hl⟩ | ⟨ne, he⟩
    · exact ⟨some v, hs, v, rfl, h⟩
    · exact c.cell j e he
  · rcases get_set_cases h1 with ⟨rfl, rfl, hl⟩ | ⟨ne1, g1⟩
    · cases o1
    · rcases get_set_cases h2 with ⟨rfl, rfl, hl⟩ | ⟨ne2, g2⟩
      · cases o2
      · exact c.sep j k e1 e2 a g1 g2 o1 o2 s1 s2
theorem Con.putB {K : PySem.W.Frag} {B F0 H0 B0 F H : Hp} {io io0 : List (Nat × Addr)} {σ : St} {ρ0 : En} (c0 : Con K B0 F0 io0 σ H0 ρ0) (s : Same F0 F) : ∀ (vs : List Nat) {ρ : En}, Con K B F io σ H ρ → Con K B F io σ H (Pd.putB vs ρ0 ρ)
  | [], _, c => c
  | i :: r, ρ, c => by
    unfold Pd.putB
    split
    · rename_i d e
      obtain ⟨x, hx, v, rfl, dd⟩ := c0.cell i _ e
      exact Con.putB c0 s r (c.recall hx (dp_mono s dd))
    · exact Con.putB c0 s r c
theorem notOwned_putB {σ : St} {ρ0 : En} {a : Addr} : ∀ (vs : List Nat) {ρ : En}, NotOwned σ ρ a → NotOwned σ (Pd.putB vs ρ0 ρ) a
  | [], _, h => h
  | i :: r, ρ, h => by
    unfold Pd.putB
    split
    · refine notOwned_putB r fun j e he ho => ?_
      rcases get_set_cases he with ⟨rfl, rfl, _⟩ | ⟨ne, he⟩
      · cases ho
      · exact h j e he ho
    · exact notOwned_putB r h
def eComp (lk : Option Nat) (vs : List Nat) (it : FA) (g : FG) (c : FT) (e : FE) : FN := fun ρ => (it ρ).bind fun p => (compG lk p.1 vs g (stp c e) p.1 [] p.2).map fun q => (.ol q.1, putB vs p.2 (killL vs q.2))
section
variable {X : Cx} {tg iter elt : Expr} {ifs : List Expr} {scope : Scope} {own : List (Str × Nat)} {pos : Pos} {wi : TI} {fi : FA} {lk : Option Nat} {ws vs : List Nat} {t1 : TG} {g1 : FG} {tt : TT} {fc : FT} {te : TE} {fe : FE}
theorem sn_comp {K : PySem.W.Frag} (hi : SI K lk wi fi) (hg : SG K [] ws t1 g1) (hc : ST K tt fc) (he : SE K te fe) (hw : ∀ i ∈ ws, i ∈ vs) (hlv : ∀ j, lk = some j → j ∉ vs) : SN K (tLc wi t1 tt te vs) (eComp lk vs fi g1 fc fe) := by
  intro B F io σ H ρ cl ρ' Q c e k
  obtain ⟨⟨xs, ρ0⟩, e1, e⟩ := Option.bind_eq_some_iff.mp e
  obtain ⟨⟨out, ρz⟩, e2, e3⟩ := Option.map_eq_some_iff.mp e
  cases e3
  refine hi B F io σ H ρ xs ρ0 _ c e1 fun F0 H0 J C g0 c0 wk hcl hlk => ?_
  intro Dd nD
  have bD : B Dd = none := c0.base.free nD
  have fD0 : F0 Dd = none := c0.frz.free nD
  have hσ : ∀ i, i ∉ vs → (wipe σ vs)[i]? = σ[i]? := wipe_get σ vs
  refine ⟨fun i m H => m = xs.length - i ∧ i ≤ xs.length ∧ ∃ F2 ρ2 acc accV, Gr B F0 F2 ∧ Con K (upd B Dd (.lst accV)) F2 [] (wipe σ vs) H (killL vs ρ2) ∧ F2 Dd = none ∧ DpAll K F2 accV acc ∧ compG lk xs vs g1 (stp fc fe) (xs.drop i) acc ρ2 = some (out, ρz),
    ⟨xs.length, by simp, Nat.zero_le _, F0, ρ0, [], [], Gr.refl _ _, (c0.toBase nD).move vs (wipe_length σ vs) hσ (fun p hp => absurd hp (List.not_mem_nil)), fD0, .nil, e2⟩, ?_⟩
  rintro i m H2 ⟨rfl, hi2, F2, ρ2, acc, accV, g2, c2, fD, dA, e4⟩
  by_cases hlt : i < xs.length
  · rw [List.drop_eq_getElem_cons hlt] at e4
    unfold compG at e4
    by_cases hlo : lockOk lk xs (killL vs ρ2) = true
    · rw [if_pos hlo] at e4
      obtain ⟨ρ3, e5, e4⟩ := Option.bind_eq_some_iff.mp e4
      obtain ⟨⟨acc4, ρ4⟩, e6, e7⟩ := Option.bind_eq_some_iff.mp e4
      have cc := hcl _ F2 [] (wipe σ vs) H2 (killL vs ρ2) g2.sub c2 hlo (fun j hj => hσ j (hlv j hj))
      refine .inr ⟨wk.go i F2 H2 cc hlt, fun H' => ∃ m', m' < xs.length - i ∧ (m' = xs.length - (i + 1) ∧ i + 1 ≤ xs.length ∧ ∃ F2 ρ2 acc accV, Gr B F0 F2 ∧ Con K (upd B Dd (.lst accV)) F2 [] (wipe σ vs) H' (killL vs ρ2) ∧ F2 Dd = none ∧ DpAll K F2 accV acc ∧ compG lk xs vs g1 (stp fc fe) (xs.drop (i + 1)) acc ρ2 = some (out, ρz)), fun H' h => h, fun x H' y => ?_⟩
      obtain ⟨e8, d, e9, dd⟩ := wk.yld i F2 H2 x H' cc hlt y
      subst e8
      rw [List.getElem?_eq_getElem hlt] at e9
      cases e9
      refine hg _ F2 [] (wipe σ vs) H' (killL vs ρ2) x xs[i] ρ3 _ rfl c2 dd e5 fun F3 σ3 H3 g3 c3 off => ⟨?_, ?_⟩
      · rw [wipe_off off hw, wipe_wipe]
      obtain ⟨p, e10, e11⟩ := Option.bind_eq_some_iff.mp e6
      refine hc _ F3 [] σ3 H3 ρ3 p.1 p.2 _ c3 e10 fun F4 H4 g4 c4 => ?_
      have back : ∀ {F5 : Hp} {H5 : Hp} {ρ5 : En} {B5 : Hp}, Con K B5 F5 [] σ3 H5 ρ5 → Con K B5 F5 [] (wipe σ vs) H5 (killL vs ρ5) := fun {F5 H5 ρ5 B5} c5 =>
        c5.move vs (by rw [off.1]) (fun j hj => ((off.2 j fun z => hj (hw j z))).symm) (fun p hp => absurd hp (List.not_mem_nil))
      by_cases hp : p.1 = true
      · rw [if_pos hp] at e11 ⊢
        obtain ⟨q, e12, e13⟩ := Option.bind_eq_some_iff.mp e11
        by_cases hz : acc.length < sizeLine
        · rw [if_pos hz] at e13
          cases e13
          refine he _ F4 [] σ3 H4 p.2 q.1 q.2 _ c4 e12 fun F5 H5 v g5 c5 d5 => ?_
          have gg := (g3.trans g4).trans g5
          have fD5 := gg.at fD
          have dA5 := dpAll_mono gg.sub dA
          refine ⟨accV, c5.base _ _ upd_same, by rw [dA.length]; exact hz, xs.length - (i + 1), by omega, rfl, hlt, F5, q.2, acc ++ [q.1], accV ++ [v], g2.trans (gg.unBase bD), back (c5.reBase fD5), fD5, dA5.append (.one d5), e7⟩
        · rw [if_neg hz] at e13; cases e13
      · rw [if_neg hp] at e11 ⊢
        cases e11
        have gg := g3.trans g4
        exact ⟨xs.length - (i + 1), by omega, rfl, hlt, F4, p.2, acc, accV, g2.trans (gg.unBase bD), back c4, gg.at fD, dpAll_mono gg.sub dA, e7⟩
    · rw [if_neg hlo] at e4; cases e4
  · have hi3 : i = xs.length := by omega
    subst hi3
    rw [List.drop_length] at e4
    unfold compG at e4
    by_cases hlo : lockOk lk xs (killL vs ρ2) = true
    · rw [if_pos hlo] at e4
      cases e4
      have cc := hcl _ F2 [] (wipe σ vs) H2 (killL vs ρ2) g2.sub c2 hlo (fun j hj => hσ j (hlv j hj))
      refine .inl ⟨wk.stop _ F2 H2 cc (Nat.le_refl _), ?_⟩
      have cf : Con K (upd B Dd (.lst accV)) F2 io σ H2 (killL vs (killL vs ρ2)) := c2.move vs (wipe_length σ vs).symm (fun j hj => (hσ j hj).symm) c.io
      exact k F2 H2 Dd (.lst accV) (g0.trans g2) (Con.putB c0 g2.sub vs (cf.unBase bD)) (c2.base _ _ upd_same) dA fD bD (notOwned_putB vs cf.notOwned_base)
    · rw [if_neg hlo] at e4; cases e4
theorem dn_comp (hcm : X.calm = true) (hN : X.N.Nodup) (hi : DI X lk tg iter wi fi) (ok : BlkOk X.N X.env.scope scope own)
    (hg : ∀ (s : Shared) (H : Hp) (C : Addr) (cl : List (Str × Addr)) (fp : List Addr), DG (X.blk s H scope (compEnvC scope cl C X.env) fp) [] ws tg t1 g1) (ht : ∀ (s : Shared) (H : Hp) (C : Addr) (cl : List (Str × Addr)) (fp : List Addr), DTs (X.blk s H scope (compEnvC scope cl C X.env) fp) ifs tt fc)
    (he : ∀ (s : Shared) (H : Hp) (C : Addr) (cl : List (Str × Addr)) (fp : List Addr), DE (X.blk s H scope (compEnvC scope cl C X.env) fp) elt te fe) (hw : ∀ i ∈ ws, i ∈ own.map (·.2) := by decide) (hlv : ∀ j, lk = some j → j ∉ own.map (·.2) := by decide) (hs : ∀ x, foldedSetIterable iter X.env x = pure x := by intro _; rfl) :
    DN X (.ListComp elt [⟨tg, iter, ifs, 0⟩] scope pos) (tLc wi t1 tt te (own.map (·.2))) (eComp lk (own.map (·.2)) fi g1 fc fe) :=
  ⟨pe_lc hcm hN hi.pe ok (fun s H C cl fp => (hg s H C cl fp).pe) (fun s H C cl fp => (ht s H C cl fp).pe) (fun s H C cl fp => (he s H C cl fp).pe) hs,
   sn_comp hi.se (hg X.s_0 X.H_0 0 [] []).se (ht X.s_0 X.H_0 0 [] []).se (he X.s_0 X.H_0 0 [] []).se hw hlv⟩
variable {L : List Nat}
/-- y = [..] on one line, y a local -/
theorem ds_setCompN {i : Nat} {y : Str} {py spos : Pos} (hcm : X.calm = true) (hN : X.N.Nodup) (hi : DI X lk tg iter wi fi) (ok : BlkOk X.N X.env.scope scope own)
    (hg : ∀ (s : Shared) (H : Hp) (C : Addr) (cl : List (Str × Addr)) (fp : List Addr), DG (X.blk s H scope (compEnvC scope cl C X.env) fp) [] ws tg t1 g1) (ht : ∀ (s : Shared) (H : Hp) (C : Addr) (cl : List (Str × Addr)) (fp : List Addr), DTs (X.blk s H scope (compEnvC scope cl C X.env) fp) ifs tt fc)
    (he : ∀ (s : Shared) (H : Hp) (C : Addr) (cl : List (Str × Addr)) (fp : List Addr), DE (X.blk s H scope (compEnvC scope cl C X.env) fp) elt te fe) (hy : X.N[i]? = some y := by rfl) (hyl : X.env.scope.names.lookup y = some .local := by rfl)
    (hsw : swapsWith (.ListComp elt [⟨tg, iter, ifs, 0⟩] scope pos) (some (.Name y py)) spos.line X.env = pure true := by exact sw_true rfl rfl rfl (by decide +kernel))
    (hw : ∀ i ∈ ws, i ∈ own.map (·.2) := by decide) (hlv : ∀ j, lk = some j → j ∉ own.map (·.2) := by decide) (hl : i ∉ L := by decide) (hs : ∀ x, foldedSetIterable iter X.env x = pure x := by intro _; rfl) :
    DS X L (.Assign [.Name y py] (.ListComp elt [⟨tg, iter, ifs, 0⟩] scope pos) spos) (tAsg (tLc wi t1 tt te (own.map (·.2))) (gName i)) (sSetN i (eComp lk (own.map (·.2)) fi g1 fc fe)) :=
  ⟨ps_setLc hcm hN hy hyl hsw hi.pe ok (fun s H C cl fp => (hg s H C cl fp).pe) (fun s H C cl fp => (ht s H C cl fp).pe) (fun s H C cl fp => (he s H C cl fp).pe) hs,
   ss_setN hl (sn_comp hi.se (hg X.s_0 X.H_0 0 [] []).se (ht X.s_0 X.H_0 0 [] []).se (he X.s_0 X.H_0 0 [] []).se hw hlv)⟩
/-- the same, the list never changed -/
theorem ds_setComp {i : Nat} {y : Str} {py spos : Pos} (hcm : X.calm = true) (hN : X.N.Nodup) (hi : DI X lk tg iter wi fi) (ok : BlkOk X.N X.env.scope scope own)
    (hg : ∀ (s : Shared) (H : Hp) (C : Addr) (cl : List (Str × Addr)) (fp : List Addr), DG (X.blk s H scope (compEnvC scope cl C X.env) fp) [] ws tg t1 g1) (ht : ∀ (s : Shared) (H : Hp) (C : Addr) (cl : List (Str × Addr)) (fp : List Addr), DTs (X.blk s H scope (compEnvC scope cl C X.env) fp) ifs tt fc)
    (he : ∀ (s : Shared) (H : Hp) (C : Addr) (cl : List (Str × Addr)) (fp : List Addr), DE (X.blk s H scope (compEnvC scope cl C X.env) fp) elt te fe) (hy : X.N[i]? = some y := by rfl) (hyl : X.env.scope.names.lookup y = some .local := by rfl)
    (hsw : swapsWith (.ListComp elt [⟨tg, iter, ifs, 0⟩] scope pos) (some (.Name y py)) spos.line X.env = pure true := by exact sw_true rfl rfl rfl (by decide +kernel))
    (hw : ∀ i ∈ ws, i ∈ own.map (·.2) := by decide) (hlv : ∀ j, lk = some j → j ∉ own.map (·.2) := by decide) (hl : i ∉ L := by decide) (hs : ∀ x, foldedSetIterable iter X.env x = pure x := by intro _; rfl) :
    DS X L (.Assign [.Name y py] (.ListComp elt [⟨tg, iter, ifs, 0⟩] scope pos) spos) (tAsg (tLc wi t1 tt te (own.map (·.2))) (gName i)) (sSet i (eFrz (eComp lk (own.map (·.2)) fi g1 fc fe))) :=
  ⟨ps_setLc hcm hN hy hyl hsw hi.pe ok (fun s H C cl fp => (hg s H C cl fp).pe) (fun s H C cl fp => (ht s H C cl fp).pe) (fun s H C cl fp => (he s H C cl fp).pe) hs,
   ss_set hl (se_frz (sn_comp hi.se (hg X.s_0 X.H_0 0 [] []).se (ht X.s_0 X.H_0 0 [] []).se (he X.s_0 X.H_0 0 [] []).se hw hlv))⟩
end
/-! ## Defs and their calls -/
def RetC (K : PySem.W.Frag) (F' H H' : Hp) (v : V) : Cell → Prop
  | .dead => False
  | .sh d => Dp K F' v d
  | c => ∃ a o, v = .ref a ∧ H' a = some o ∧ Ob K F' c o ∧ F' a = none ∧ H a = none
theorem retC_own {K : PySem.W.Frag} {F' H H' : Hp} {v : V} {c : Cell} (h : isOwn c = true) : RetC K F' H H' v c ↔ ∃ a o, v = .ref a ∧ H' a = some o ∧ Ob K F' c o ∧ F' a = none ∧ H a = none := by
  cases c <;> first | exact Iff.rfl | (cases h)
abbrev FnS := List Cell → Option (Cell × List Cell)
/-- a def's promise: the plain function m of its arguments' cells; ios: the parameters that are lists which it changes -/
def spD (K : PySem.W.Frag) (ios : List Nat) (m : FnS) : Sp := fun vs H Q _ => ∃ (F : Hp) (cs cs' : List Cell) (r : Cell), Same F H ∧ vs.length = cs.length ∧ m cs = some (r, cs') ∧
  (∀ i c, cs[i]? = some c → i ∉ ios → ∃ v d, vs[i]? = some v ∧ c = .sh d ∧ Dp K F v d) ∧
  (∀ i, i ∈ ios → ∃ a o c, cs[i]? = some c ∧ isOwn c = true ∧ vs[i]? = some (.ref a) ∧ H a = some o ∧ Ob K F c o ∧ F a = none) ∧
  (∀ i j a, i ∈ ios → j ∈ ios → vs[i]? = some (.ref a) → vs[j]? = some (.ref a) → i = j) ∧
  ∀ F' H' v, Same F F' → Same F' H' → (∀ a o, F' a = some o → F a = some o ∨ H a = none) → (∀ a o, H a = some o → (∀ i, i ∈ ios → vs[i]? ≠ some (.ref a)) → H' a = some o) → RetC K F' H H' v r →
    (∀ i, i ∈ ios → ∀ a, vs[i]? = some (.ref a) → ∃ o c', cs'[i]? = some c' ∧ isOwn c' = true ∧ H' a = some o ∧ Ob K F' c' o ∧ F' a = none) → Q v H'
def ownAt (ρ : En) (i : Nat) : Bool := match ρ[i]? with
  | some c => isOwn c
  | none => false
/-- what is told of the arguments' cells: nothing, if none is changed -/
def keepN : List Nat → Nat → Nat
  | [], _ => 0
  | _ :: _, n => n
theorem keepN_mem {ios : List Nat} {i n : Nat} (h : i ∈ ios) : keepN ios n = n := by
  cases ios with
  | nil => cases h
  | cons _ _ => rfl
def fnSem (n : Nat) (ios : List Nat) (body : FS) : FnS := fun cs => (body (cs ++ List.replicate (n - cs.length) Cell.dead)).bind fun o => match o with
  | .rt c ρ' => if ios.all (ownAt ρ') = true then some (c, ρ'.take (keepN ios cs.length)) else none
  | .nx ρ' => if ios.all (ownAt ρ') = true then some (.sh .none, ρ'.take (keepN ios cs.length)) else none
  | _ => none
section
variable {P : Program} {w : World} {K : PySem.W.Frag} {mg : Str → Option Value} {base : Heap}
theorem ownAt_get {ρ : En} {i : Nat} (h : ownAt ρ i = true) : ∃ c, ρ[i]? = some c ∧ isOwn c = true := by
  unfold ownAt at h
  split at h
  · exact ⟨_, by assumption, h⟩
  · cases h
open Classical in
theorem pd_fn {x qual : Str} {st : Stmt} {f : Addr} {fd : FuncData} {N ps : List Str} {k : Nat} (ios : List Nat) {body : FS} (Fn : Fun K x qual st f fd) (S : FnScope N ps (defScope st)) (hps : ∀ cs r, fnSem N.length ios body cs = some r → cs.length = ps.length → cs.length ≤ N.length)
    (hbody : ∀ (cdv : Value) (A : Around) (outer : List Env) (s : Shared) (H : Hp) (E : XK), Room k (A.deeper (envOfC qual (defScope st) s.heap.objs.size f cdv)) →
      ∃ t, DSs (cxOf CX0 P w K mg base N qual (defScope st) f cdv A outer s H E).nox ios (defBody st) t body) :
    FnOk P w K mg base CX0 (k + 1) f fd ps (fun vs H Q E => vs.length = ps.length ∧ spD K ios (fnSem N.length ios body) vs H Q E) := by
  refine Fn.ok S (fun vs H Q E h => h.1) (fun cdv A outer s H vs Q E hr h => ?_)
  obtain ⟨hvl, F, cs, cs', r, sm, hlen, hm, hd, ho, hsep, hq⟩ := h
  obtain ⟨t, pe, se⟩ := hbody cdv A outer s H E hr
  refine ⟨t, pe, ?_⟩
  have hcN : cs.length ≤ N.length := hps cs _ hm (by rw [← hlen]; exact hvl)
  obtain ⟨o, e1, e2⟩ := Option.bind_eq_some_iff.mp hm
  let adr : Nat → Addr := fun i => match vs[i]? with
    | some (.ref a) => a
    | _ => 0
  have hadr : ∀ i a, vs[i]? = some (.ref a) → adr i = a := fun i a e => by show (match vs[i]? with | some (.ref a) => a | _ => 0) = a; rw [e]
  let B : Hp := fun a => if ∃ i, i ∈ ios ∧ vs[i]? = some (.ref a) then none else H a
  have hB : ∀ {a}, (∀ i, i ∈ ios → vs[i]? ≠ some (.ref a)) → B a = H a := fun {a} h => if_neg (fun ⟨i, z1, z2⟩ => h i z1 z2)
  have hB0 : ∀ {a i}, i ∈ ios → vs[i]? = some (.ref a) → B a = none := fun {a i} z1 z2 => if_pos ⟨i, z1, z2⟩
  have sBH : Same B H := fun a x e => by
    by_cases z : ∃ i, i ∈ ios ∧ vs[i]? = some (.ref a)
    · have : B a = none := if_pos z
      rw [this] at e; cases e
    · have : B a = H a := if_neg z
      rw [this] at e; exact e
  have hstart : start N vs = vs.map some ++ List.replicate (N.length - cs.length) none := by rw [← hlen]; rfl
  have getσ : ∀ {i v}, vs[i]? = some v → (start N vs)[i]? = some (some v) := fun {i v} e => by
    rw [hstart, List.getElem?_append_left (by rw [List.length_map]; exact (List.getElem?_eq_some_iff.mp e).1), List.getElem?_map, e]
    rfl
  have getρ : ∀ {i c}, (cs ++ List.replicate (N.length - cs.length) Cell.dead)[i]? = some c → cs[i]? = some c ∨ c = Cell.dead := fun {i c} e => by
    by_cases hi : i < cs.length
    · rw [List.getElem?_append_left hi] at e; exact .inl e
    · rw [List.getElem?_append_right (by omega)] at e
      exact .inr (List.eq_of_mem_replicate (List.mem_of_getElem? e))
  have c0 : Con K B F (ios.map fun i => (i, adr i)) (start N vs) H (cs ++ List.replicate (N.length - cs.length) Cell.dead) := by
    refine ⟨by rw [hstart, List.length_append, List.length_append, List.length_map, List.length_replicate, List.length_replicate, hlen], sBH, sm, fun i c he => ?_, fun i j c1 c2 a h1 h2 o1 o2 s1 s2 => ?_, fun p hp => ?_⟩
    · rcases getρ he with he' | rfl
      · by_cases hi : i ∈ ios
        · obtain ⟨a, w, c', z1, z2, z3, z4, z5, z6⟩ := ho i hi
          rw [he'] at z1
          cases z1
          exact ⟨_, getσ z3, (cellOk_own z2).mpr ⟨a, w, rfl, z4, z5, z6, hB0 hi z3⟩⟩
        · obtain ⟨v, d, z1, rfl, z2⟩ := hd i c he' hi
          exact ⟨_, getσ z1, v, rfl, z2⟩
      · have hlt : i < (start N vs).length := by
          have := (List.getElem?_eq_some_iff.mp he).1
          rw [List.length_append, List.length_replicate] at this
          rw [hstart, List.length_append, List.length_map, List.length_replicate, hlen]
          exact this
        exact ⟨_, List.getElem?_eq_getElem hlt, trivial⟩
    · have i1 : i ∈ ios := by
        rcases getρ h1 with z | rfl
        · by_cases hi : i ∈ ios
          · exact hi
          · obtain ⟨v, d, _, rfl, _⟩ := hd i c1 z hi; cases o1
        · cases o1
      have j1 : j ∈ ios := by
        rcases getρ h2 with z | rfl
        · by_cases hi : j ∈ ios
          · exact hi
          · obtain ⟨v, d, _, rfl, _⟩ := hd j c2 z hi; cases o2
        · cases o2
      obtain ⟨a1, _, _, _, _, z3, _⟩ := ho i i1
      obtain ⟨a2, _, _, _, _, z4, _⟩ := ho j j1
      rw [getσ z3] at s1
      rw [getσ z4] at s2
      cases s1
      cases s2
      exact hsep i j a i1 j1 z3 z4
    · obtain ⟨i, hi, rfl⟩ := List.mem_map.mp hp
      obtain ⟨a1, _, _, _, _, z3, _⟩ := ho i hi
      rw [getσ z3, hadr i a1 z3]
  have fin : ∀ {c ρ'}, ios.all (ownAt ρ') = true → r = c → cs' = ρ'.take (keepN ios cs.length) → ∀ F' σ' H' v, Gr B F F' → Con K B F' (ios.map fun i => (i, adr i)) σ' H' ρ' → RetOk K B F' σ' H' ρ' v c → Q v H' := by
    intro c ρ' hall hr hcs F' σ' H' v g cn ret
    subst hr hcs
    have ioc : ∀ i, i ∈ ios → ∀ a, vs[i]? = some (.ref a) → ∃ c', ρ'[i]? = some c' ∧ isOwn c' = true ∧ ∃ o, σ'[i]? = some (some (.ref a)) ∧ H' a = some o ∧ Ob K F' c' o ∧ F' a = none := fun i hi a ha => by
      obtain ⟨c', z1, z2⟩ := ownAt_get (List.all_eq_true.mp hall i hi)
      obtain ⟨a', o', y1, y2, y3, y4, _⟩ := cn.own z1 z2
      have y5 := cn.io (i, adr i) (List.mem_map.mpr ⟨i, hi, rfl⟩)
      have y5 : σ'[i]? = some (some (.ref (adr i))) := y5
      rw [hadr i a ha, y1] at y5
      cases y5
      exact ⟨c', z1, z2, o', y1, y2, y3, y4⟩
    refine hq F' H' v g.sub cn.frz (fun a o e => ?_) (fun a o e hn => cn.base a o (by rw [hB hn]; exact e)) ?_ (fun i hi a ha => ?_)
    · rcases g.new a o e with z | z
      · exact .inl z
      · by_cases hx : ∃ i, i ∈ ios ∧ vs[i]? = some (.ref a)
        · obtain ⟨i, hi, ha⟩ := hx
          obtain ⟨_, _, _, _, _, _, _, y⟩ := ioc i hi a ha
          rw [y] at e; cases e
        · rw [hB (fun i hi ha => hx ⟨i, hi, ha⟩)] at z; exact .inr z
    · by_cases hown : isOwn r = true
      · rw [retOk_own hown] at ret
        rw [retC_own hown]
        obtain ⟨a, o, y1, y2, y3, y4, y5, y6⟩ := ret
        refine ⟨a, o, y1, y2, y3, y4, ?_⟩
        by_cases hx : ∃ i, i ∈ ios ∧ vs[i]? = some (.ref a)
        · obtain ⟨i, hi, ha⟩ := hx
          obtain ⟨c', z1, z2, _, z3, _⟩ := ioc i hi a ha
          exact absurd z3 (y6 i c' z1 z2)
        · rw [hB (fun i hi ha => hx ⟨i, hi, ha⟩)] at y5; exact y5
      · cases r with
        | dead => exact ret
        | sh d => exact ret
        | fd tk kvs =>
          obtain ⟨_, _, _, _, h, _⟩ := ret
          exact h.elim
        | _ => exact absurd rfl hown
    · obtain ⟨c', z1, z2, o', _, z4, z5, z6⟩ := ioc i hi a ha
      have hi2 : i < cs.length := by rw [← hlen]; exact (List.getElem?_eq_some_iff.mp ha).1
      exact ⟨o', c', by rw [keepN_mem hi, List.getElem?_take_of_lt hi2]; exact z1, z2, z4, z5, z6⟩
  refine se B F (ios.map fun i => (i, adr i)) (start N vs) H _ o _ (by rw [List.map_map]; exact List.map_id _) c0 e1 ?_
  cases o with
  | rt c ρ' =>
    have e2 : (if ios.all (ownAt ρ') = true then some (c, ρ'.take (keepN ios cs.length)) else none) = some (r, cs') := e2
    by_cases hall : ios.all (ownAt ρ') = true
    · rw [if_pos hall] at e2
      cases e2
      exact fin hall rfl rfl
    · rw [if_neg hall] at e2; cases e2
  | nx ρ' =>
    have e2 : (if ios.all (ownAt ρ') = true then some (Cell.sh .none, ρ'.take (keepN ios cs.length)) else none) = some (r, cs') := e2
    by_cases hall : ios.all (ownAt ρ') = true
    · rw [if_pos hall] at e2
      cases e2
      exact fun F' σ' H' g cn => fin hall rfl rfl F' σ' H' .non g cn .non
    · rw [if_neg hall] at e2; cases e2
  | bk ρ' => cases e2
  | ct ρ' => cases e2
end
end L2.Pd

namespace L2.Pd
open PySem PySem.Spec PyProof.Rows
/-! ## The call of a def -/
abbrev FC := En → Option (Cell × En)
def SC (K : PySem.W.Frag) (t : TE) (f : FC) : Prop := ∀ (B F : Hp) (io : List (Nat × Addr)) (σ : St) (H : Hp) (ρ : En) (c : Cell) (ρ' : En) (Q : VK), Con K B F io σ H ρ → f ρ = some (c, ρ') →
  (∀ F' H' v, Gr B F F' → Con K B F' io σ H' ρ' → RetOk K B F' σ H' ρ' v c → Q v H') → t σ H Q
structure DC (X : Cx) (e : Expr) (t : TE) (f : FC) : Prop where
  pe : PE X e t
  se : SC X.K t f
/-- a new list is frozen -/
theorem Con.freeze_new {K : PySem.W.Frag} {B F H : Hp} {io : List (Nat × Addr)} {σ : St} {ρ : En} {a : Addr} {o : HO} {ds : List D} (c : Con K B F io σ H ρ) (ha : H a = some o) (ob : Ob K F (.ol ds) o) (fa : F a = none) (ba : B a = none) (no : NotOwned σ ρ a) :
    ∃ F', Gr B F F' ∧ Con K B F' io σ H ρ ∧ Dp K F' (.ref a) (.list ds) := by
  cases o with
  | lst vs =>
    have s1 : Same F (upd F a (.lst vs)) := same_upd fa
    refine ⟨upd F a (.lst vs), ⟨s1, fun b x e => ?_⟩, ⟨c.len, c.base, fun b x e => ?_, fun i u hu => ?_, c.sep, c.io⟩, .lst (.inl (.inl upd_same)) (dpAll_mono s1 ob)⟩
    · by_cases q : b = a
      · subst q; exact .inr ba
      · rw [upd_ne q] at e; exact .inl e
    · by_cases q : b = a
      · subst q; rw [upd_same] at e; rw [ha]; exact e
      · rw [upd_ne q] at e; exact c.frz b x e
    · obtain ⟨x, hx, ok⟩ := c.cell i u hu
      refine ⟨x, hx, ?_⟩
      by_cases ho : isOwn u = true
      · rw [cellOk_own ho] at ok ⊢
        obtain ⟨q, w, z1, z2, z3, z4, z5⟩ := ok
        subst z1
        refine ⟨q, w, rfl, z2, ob_mono s1 z3, ?_, z5⟩
        rw [upd_ne (fun z => no i u hu ho (by rw [hx, z]))]
        exact z4
      · cases u with
        | dead => trivial
        | sh d => obtain ⟨v, z1, z2⟩ := ok; exact ⟨v, z1, dp_mono s1 z2⟩
        | fd tk kvs => obtain ⟨p, ob, u, z1, z2, z3⟩ := ok; exact ⟨p, ob, u, z1, s1 _ _ z2, dictOb_mono s1 z3⟩
        | _ => exact absurd rfl ho
  | _ => exact False.elim ob
def cellD : Cell → Option D
  | .sh d => some d
  | .ol ds => some (.list ds)
  | _ => none
def ownC : Cell → Option Cell
  | .ol ds => some (.ol ds)
  | .od tk ds => some (.od tk ds)
  | _ => none
theorem ownC_eq {c c' : Cell} (h : ownC c = some c') : c' = c ∧ isOwn c = true := by
  cases c <;> first | (cases h; exact ⟨rfl, rfl⟩) | (cases h; done)
def eRetD (f : FC) : FE := fun ρ => (f ρ).bind fun p => (cellD p.1).map fun d => (d, p.2)
def eRetN (f : FC) : FN := fun ρ => (f ρ).bind fun p => (ownC p.1).map fun c => (c, p.2)
section
variable {X : Cx} {e : Expr} {t : TE} {f : FC}
theorem DC.de (h : DC X e t f) : DE X e t (eRetD f) := ⟨h.pe, by
  intro B F io σ H ρ d ρ' Q c e k
  obtain ⟨p, e1, e⟩ := Option.bind_eq_some_iff.mp e
  obtain ⟨z, e2, e3⟩ := Option.map_eq_some_iff.mp e
  cases e3
  refine h.se B F io σ H ρ p.1 p.2 _ c e1 fun F1 H1 v g1 c1 r1 => ?_
  cases hp : p.1 with
  | sh d0 =>
    rw [hp] at e2 r1
    cases e2
    exact k F1 H1 v g1 c1 r1
  | ol ds =>
    rw [hp] at e2 r1
    cases e2
    obtain ⟨a, o, rfl, h1, h2, h3, h4, h5⟩ := (retOk_own rfl).mp r1
    obtain ⟨F2, g2, c2, d2⟩ := c1.freeze_new h1 h2 h3 h4 h5
    exact k F2 H1 _ (g1.trans g2) c2 d2
  | _ => rw [hp] at e2; cases e2⟩
theorem DC.dn (h : DC X e t f) : DN X e t (eRetN f) := ⟨h.pe, by
  intro B F io σ H ρ d ρ' Q c e k
  obtain ⟨p, e1, e⟩ := Option.bind_eq_some_iff.mp e
  obtain ⟨z, e2, e3⟩ := Option.map_eq_some_iff.mp e
  cases e3
  obtain ⟨e4, ho⟩ := ownC_eq e2
  rw [← e4] at ho
  refine h.se B F io σ H ρ p.1 p.2 _ c e1 fun F1 H1 v g1 c1 r1 => ?_
  rw [← e4] at r1
  obtain ⟨a, o, rfl, h1, h2, h3, h4, h5⟩ := (retOk_own ho).mp r1
  exact k F1 H1 a o g1 c1 h1 h2 h3 h4 h5⟩
end
/-- f(e, ..), no argument is changed -/
def eCall0 (m : FnS) (fa : FA) : FC := fun ρ => (fa ρ).bind fun p => (m (p.1.map .sh)).map fun r => (r.1, p.2)
section
variable {X : Cx} {k : Nat} {f : Addr} {fd : FuncData} {ps : List Str} {m : FnS} {x : Str} {p pos : Pos} {e : Expr} {es : List Expr} {t : TA} {fa : FA}
abbrev FnD (P : Program) (w : World) (K : PySem.W.Frag) (mg : Str → Option Value) (base : Heap) (k : Nat) (f : Addr) (fd : FuncData) (ps : List Str) (ios : List Nat) (m : FnS) : Prop :=
  FnOk P w K mg base CX0 k f fd ps (fun vs H Q E => vs.length = ps.length ∧ spD K ios m vs H Q E)
theorem shs_get {K : PySem.W.Frag} {F : Hp} {vs : List V} {ds : List D} (h : DpAll K F vs ds) {i : Nat} {c : Cell} (e : (ds.map Cell.sh)[i]? = some c) : ∃ v d, vs[i]? = some v ∧ c = .sh d ∧ Dp K F v d := by
  rw [List.getElem?_map] at e
  obtain ⟨d, e1, e2⟩ := Option.map_eq_some_iff.mp e
  obtain ⟨v, e3, q⟩ := h.get' e1
  exact ⟨v, d, e3, e2.symm, q⟩
theorem sc_call0 {K : PySem.W.Frag} {sp : Sp} (hsp : sp = fun vs H Q E => vs.length = ps.length ∧ spD K [] m vs H Q E) (hn : ∀ ρ ds ρ', fa ρ = some (ds, ρ') → ds.length = ps.length) (ha : SA K t fa) : SC K (tCall sp [] E0 t) (eCall0 m fa) := by
  subst hsp
  intro B F io σ H ρ c ρ' Q cn e k
  obtain ⟨⟨ds, ρ1⟩, e1, e⟩ := Option.bind_eq_some_iff.mp e
  obtain ⟨⟨r, cs'⟩, e2, e3⟩ := Option.map_eq_some_iff.mp e
  cases e3
  refine ha B F io σ H ρ ds ρ1 _ cn e1 fun F1 H1 vs g1 c1 d1 => ?_
  rw [List.append_nil]
  refine ⟨by rw [d1.length]; exact hn _ _ _ e1, F1, _, cs', r, c1.frz, by rw [List.length_map, d1.length], e2, fun i c he _ => shs_get d1 he, fun i hi => absurd hi (List.not_mem_nil), fun i j a hi => absurd hi (List.not_mem_nil), ?_⟩
  intro F' H' v s1 s2 hnew hkeep ret _
  have al : Al F1 H1 F' H' := ⟨s1, fun a o ha => hkeep a o ha (fun i hi => absurd hi (List.not_mem_nil)), s2, hnew⟩
  have c2 := c1.al al
  refine k F' H' v (g1.trans (al.gr c1.base)) c2 ?_
  by_cases ho : isOwn r = true
  · rw [retC_own ho] at ret
    obtain ⟨a, o, y1, y2, y3, y4, y5⟩ := ret
    exact (retOk_own ho).mpr ⟨a, o, y1, y2, y3, y4, c1.base.free y5, c1.fresh_notOwned y5⟩
  · cases r with
    | dead => exact ret
    | sh d => exact ret
    | fd tk kvs =>
      obtain ⟨_, _, _, _, h, _⟩ := ret
      exact h.elim
    | _ => exact absurd rfl ho
/-- the arguments are so many -/
def aLen (fa : FA) (n : Nat) : Prop := ∀ ρ ds ρ', fa ρ = some (ds, ρ') → ds.length = n
theorem aLen_nil : aLen aNil 0 := fun ρ ds ρ' h => by cases h; rfl
theorem aLen_cons {f : FE} {g : FA} {n : Nat} (h : aLen g n) : aLen (aCons f g) (n + 1) := fun ρ ds ρ' e => by
  obtain ⟨p, _, e⟩ := Option.bind_eq_some_iff.mp e
  obtain ⟨q, e2, e⟩ := Option.map_eq_some_iff.mp e
  cases e
  rw [List.length_cons, h _ _ _ e2]
theorem dc_call0 (F : FnD X.prog X.w X.K X.mg X.base k f fd ps [] m) (hr : Room k X.A) (hm : X.mg x = some (.ref f)) (hk : PySem.W.keepIn X.K (.ref f) = true) (hb : Binds X.K fd ps []) (ha : DA X (e :: es) t fa) (hn : aLen fa ps.length) (hg : Gl X x := by rfl)
    (hdb : (x == ("__debug__" : Str)) = false := by decide) (he : starEach (e :: es) X.env = (false, eval e X.env) :: starEach es X.env := by rfl) (hpl : (backTo pos (starEach es X.env)).any (·.1) = false := by rfl) :
    DC X (.Call (.Name x p) (e :: es) [] pos) (tCall (fun vs H Q E => vs.length = ps.length ∧ spD X.K [] m vs H Q E) [] E0 t) (eCall0 m fa) :=
  ⟨pe_call F hr hg hm hk hb .nil pass0 ha.pe hdb he hpl, sc_call0 rfl hn ha.se⟩
theorem dc_call00 (F : FnD X.prog X.w X.K X.mg X.base k f fd ps [] m) (hr : Room k X.A) (hm : X.mg x = some (.ref f)) (hk : PySem.W.keepIn X.K (.ref f) = true) (hb : Binds X.K fd ps []) (hn : ps.length = 0) (hg : Gl X x := by rfl)
    (hdb : (x == ("__debug__" : Str)) = false := by decide) :
    DC X (.Call (.Name x p) [] [] pos) (tCall (fun vs H Q E => vs.length = ps.length ∧ spD X.K [] m vs H Q E) [] E0 tNil) (eCall0 m aNil) :=
  ⟨pe_call0 F hr hg hm hk hb .nil pass0 hdb, sc_call0 rfl (by rw [hn]; exact aLen_nil) da_nil.se⟩
where da_nil : DA X [] tNil aNil := Pd.da_nil
end
/-! ### one argument is a list that the def changes -/
abbrev FR := En → Option (List (Option D) × En)
def AOk (K : PySem.W.Frag) (F : Hp) (x : Option (Option V)) (v : V) : Option D → Prop
  | some d => Dp K F v d
  | none => x = some (some v)
def SR (K : PySem.W.Frag) (j : Nat) (t : TA) (f : FR) : Prop := ∀ (B F : Hp) (io : List (Nat × Addr)) (σ : St) (H : Hp) (ρ : En) (as : List (Option D)) (ρ' : En) (Q : List V → Hp → Prop), Con K B F io σ H ρ → f ρ = some (as, ρ') →
  (∀ F' H' vs, Gr B F F' → Con K B F' io σ H' ρ' → Paired (fun v a => AOk K F' σ[j]? v a) vs as → Q vs H') → t σ H Q
structure DR (X : Cx) (j : Nat) (sh : List Bool) (es : List Expr) (t : TA) (f : FR) : Prop where
  pe : PA X es t
  se : SR X.K j t f
  shp : ∀ ρ as ρ', f ρ = some (as, ρ') → as.map Option.isSome = sh
def rNil : FR := fun ρ => some ([], ρ)
def rCons (f : FE) (g : FR) : FR := fun ρ => (f ρ).bind fun p => (g p.2).map fun q => (some p.1 :: q.1, q.2)
def rIo (j : Nat) (g : FR) : FR := fun ρ => if ownAt ρ j = true then (g ρ).map fun q => (none :: q.1, q.2) else none
section
variable {X : Cx} {j : Nat} {sh : List Bool} {e : Expr} {es : List Expr} {te : TE} {fe : FE} {t : TA} {g : FR}
theorem dr_nil : DR X j [] [] tNil rNil := ⟨pa_nil, fun B F io σ H ρ as ρ' Q c e k => by cases e; exact k F H [] (Gr.refl _ _) c .nil, fun ρ as ρ' e => by cases e; rfl⟩
theorem aok_mono {K : PySem.W.Frag} {F F' : Hp} {x : Option (Option V)} {v : V} {a : Option D} (s : Same F F') (h : AOk K F x v a) : AOk K F' x v a := by
  cases a with
  | none => exact h
  | some d => exact dp_mono s h
theorem dr_cons (ha : DE X e te fe) (hr : DR X j sh es t g) (hs : starEach (e :: es) X.env = (false, eval e X.env) :: starEach es X.env := by rfl) : DR X j (true :: sh) (e :: es) (tCons te t) (rCons fe g) := by
  refine ⟨pa_cons ha.pe hr.pe hs, ?_, ?_⟩
  · intro B F io σ H ρ as ρ' Q c h k
    obtain ⟨p, e1, h⟩ := Option.bind_eq_some_iff.mp h
    obtain ⟨q, e2, h⟩ := Option.map_eq_some_iff.mp h
    cases h
    refine ha.se B F io σ H ρ p.1 p.2 _ c e1 fun F1 H1 x g1 c1 d1 => ?_
    exact hr.se B F1 io σ H1 p.2 q.1 q.2 _ c1 e2 fun F2 H2 xs g2 c2 d2 => k F2 H2 (x :: xs) (g1.trans g2) c2 (.cons (dp_mono g2.sub d1) d2)
  · intro ρ as ρ' h
    obtain ⟨p, e1, h⟩ := Option.bind_eq_some_iff.mp h
    obtain ⟨q, e2, h⟩ := Option.map_eq_some_iff.mp h
    cases h
    rw [List.map_cons, hr.shp _ _ _ e2]
    rfl
theorem dr_io {x : Str} {pos : Pos} (hr : DR X j sh es t g) (hN : X.N[j]? = some x := by rfl) (hv : Vis X.env.scope x := by first | exact Or.inl rfl | exact Or.inr (Or.inl rfl) | exact Or.inr (Or.inr rfl)) (hd : (x == ("__debug__" : Str)) = false := by decide) (hcd : (x == ("__classdict__" : Str)) = false := by decide)
    (hs : starEach (.Name x pos :: es) X.env = (false, eval (.Name x pos) X.env) :: starEach es X.env := by rfl) : DR X j (false :: sh) (.Name x pos :: es) (tCons (tVar j) t) (rIo j g) := by
  refine ⟨pa_cons (pe_var hN hv hd hcd) hr.pe hs, ?_, ?_⟩
  · intro B F io σ H ρ as ρ' Q c h k
    have h : (if ownAt ρ j = true then (g ρ).map fun q => ((none : Option D) :: q.1, q.2) else none) = some (as, ρ') := h
    by_cases ho : ownAt ρ j = true
    · rw [if_pos ho] at h
      obtain ⟨q, e2, h⟩ := Option.map_eq_some_iff.mp h
      cases h
      obtain ⟨u, z1, z2⟩ := ownAt_get ho
      obtain ⟨a, o, h1, _⟩ := c.own z1 z2
      exact ⟨.ref a, h1, hr.se B F io σ H ρ q.1 q.2 _ c e2 fun F2 H2 xs g2 c2 d2 => k F2 H2 (.ref a :: xs) g2 c2 (.cons h1 d2)⟩
    · rw [if_neg ho] at h; cases h
  · intro ρ as ρ' h
    have h : (if ownAt ρ j = true then (g ρ).map fun q => ((none : Option D) :: q.1, q.2) else none) = some (as, ρ') := h
    by_cases ho : ownAt ρ j = true
    · rw [if_pos ho] at h
      obtain ⟨q, e2, h⟩ := Option.map_eq_some_iff.mp h
      cases h
      rw [List.map_cons, hr.shp _ _ _ e2]
      rfl
    · rw [if_neg ho] at h; cases h
end
def argC (c : Cell) : Option D → Cell
  | some d => .sh d
  | none => c
def eCall1 (i0 j : Nat) (m : FnS) (fr : FR) : FC := fun ρ => (fr ρ).bind fun p => (p.2[j]?).bind fun c => if isOwn c = true then (m (p.1.map (argC c))).bind fun r => (r.2[i0]?).map fun c' => (r.1, p.2.set j c') else none
section
variable {X : Cx} {k : Nat} {f : Addr} {fd : FuncData} {ps : List Str} {m : FnS} {x : Str} {p pos : Pos} {e : Expr} {es : List Expr} {t : TA} {fr : FR} {i0 j : Nat} {sh : List Bool}
theorem paired_get' {α β : Type} {R : α → β → Prop} : ∀ {as : List α} {bs : List β} {i : Nat} {b : β}, Paired R as bs → bs[i]? = some b → ∃ a, as[i]? = some a ∧ R a b
  | _, _, _, _, .nil, e => by simp at e
  | _, _, 0, b, .cons r _, e => by simp at e; subst e; exact ⟨_, rfl, r⟩
  | _, _, i + 1, b, .cons _ t, e => by
    obtain ⟨a, h1, h2⟩ := paired_get' (i := i) t (by simpa using e)
    exact ⟨a, by simpa using h1, h2⟩
theorem sc_call1 {K : PySem.W.Frag} {sp : Sp} (hsp : sp = fun vs H Q E => vs.length = ps.length ∧ spD K [i0] m vs H Q E) (hsh : ∀ i b, sh[i]? = some b → (b = false ↔ i = i0)) (hi0 : i0 < sh.length) (hn : sh.length = ps.length) (hs : ∀ ρ as ρ', fr ρ = some (as, ρ') → as.map Option.isSome = sh) (ha : SR K j t fr) :
    SC K (tCall sp [] E0 t) (eCall1 i0 j m fr) := by
  subst hsp
  intro B F io σ H ρ c ρ' Q cn e k
  obtain ⟨⟨as, ρ1⟩, e1, e⟩ := Option.bind_eq_some_iff.mp e
  obtain ⟨u, hu, e⟩ := Option.bind_eq_some_iff.mp e
  have e : (if isOwn u = true then (m (as.map (argC u))).bind fun r => (r.2[i0]?).map fun c' => (r.1, ρ1.set j c') else none) = some (c, ρ') := e
  by_cases hou : isOwn u = true
  case neg => rw [if_neg hou] at e; cases e
  rw [if_pos hou] at e
  obtain ⟨⟨r, cs'⟩, e2, e⟩ := Option.bind_eq_some_iff.mp e
  obtain ⟨c', e3, e4⟩ := Option.map_eq_some_iff.mp e
  cases e4
  have hshape := hs _ _ _ e1
  have hlen : as.length = sh.length := by rw [← hshape, List.length_map]
  refine ha B F io σ H ρ as ρ1 _ cn e1 fun F1 H1 vs g1 c1 d1 => ?_
  rw [List.append_nil]
  have hvl : vs.length = as.length := Paired.length d1
  obtain ⟨a, o, a1, a2, a3, a4, a5⟩ := c1.own hu hou
  have kind : ∀ {i : Nat} {b : Option D}, as[i]? = some b → (b = none ↔ i = i0) := fun {i b} hb => by
    have : sh[i]? = some b.isSome := by rw [← hshape, List.getElem?_map, hb]; rfl
    rw [← hsh i _ this]
    cases b <;> simp
  have at0 : as[i0]? = some none := by
    have hlt : i0 < as.length := by omega
    have e5 := List.getElem?_eq_getElem hlt
    rw [e5, (kind e5).mpr rfl]
  have v0 : vs[i0]? = some (.ref a) := by
    obtain ⟨v, q1, q2⟩ := paired_get' d1 at0
    have q2 : σ[j]? = some (some v) := q2
    rw [a1] at q2
    cases q2
    exact q1
  refine ⟨by rw [hvl, hlen, hn], F1, as.map (argC u), cs', r, c1.frz, by rw [List.length_map, hvl], e2, fun i w he hi => ?_, fun i hi => ?_, fun i i' b hi hi' _ _ => ?_, ?_⟩
  · rw [List.getElem?_map] at he
    obtain ⟨b, q1, q2⟩ := Option.map_eq_some_iff.mp he
    have hi : i ≠ i0 := fun z => hi (by rw [z]; exact List.mem_singleton.mpr rfl)
    cases b with
    | none => exact absurd ((kind q1).mp rfl) hi
    | some d =>
      obtain ⟨v, q3, q4⟩ := paired_get' d1 q1
      exact ⟨v, d, q3, q2.symm, q4⟩
  · have : i = i0 := List.mem_singleton.mp hi
    subst this
    exact ⟨a, o, u, by rw [List.getElem?_map, at0]; rfl, hou, v0, a2, a3, a4⟩
  · rw [List.mem_singleton.mp hi, List.mem_singleton.mp hi']
  · intro F' H' v s1 s2 hnew hkeep ret hio
    obtain ⟨o', c'', b1, b2, b3, b4, b5⟩ := hio i0 (List.mem_singleton.mpr rfl) a v0
    rw [e3] at b1
    cases b1
    have keep : ∀ b x, H1 b = some x → b ≠ a → H' b = some x := fun b x hb hne => hkeep b x hb fun i hi hv => by
      rw [List.mem_singleton.mp hi, v0] at hv
      cases hv
      exact hne rfl
    have free : ∀ {b}, H1 b ≠ none → F1 b = none → F' b = none := fun {b} hb hf => by
      cases q : F' b with
      | none => rfl
      | some x =>
        rcases hnew b x q with z | z
        · rw [hf] at z; cases z
        · exact absurd z hb
    have gr : Gr B F1 F' := ⟨s1, fun b x hb => by
      rcases hnew b x hb with z | z
      · exact .inl z
      · exact .inr (c1.base.free z)⟩
    have others : ∀ {i : Nat} {w : Cell}, i ≠ j → ρ1[i]? = some w → isOwn w = true → ∃ b x, σ[i]? = some (some (.ref b)) ∧ b ≠ a ∧ H1 b = some x ∧ H' b = some x ∧ Ob K F' w x ∧ F' b = none ∧ B b = none := fun {i w} hne hw how => by
      obtain ⟨b, x, y1, y2, y3, y4, y5⟩ := c1.own hw how
      have nb : b ≠ a := fun z => hne (c1.sep i j w u a hw hu how hou (by rw [y1, z]) a1)
      exact ⟨b, x, y1, nb, y2, keep b x y2 nb, ob_mono s1 y3, free (by rw [y2]; exact fun z => nomatch z) y4, y5⟩
    have hjl : j < ρ1.length := (List.getElem?_eq_some_iff.mp hu).1
    have c2 : Con K B F' io σ H' (ρ1.set j c') := by
      refine ⟨by rw [List.length_set, c1.len], fun b x hb => keep b x (c1.base b x hb) (fun z => by subst z; rw [a5] at hb; cases hb), s2, fun i w hw => ?_, fun i i' w w' b h1 h2 o1 o2 t1 t2 => ?_, c1.io⟩
      · rcases get_set_cases hw with ⟨rfl, rfl, _⟩ | ⟨ne, hw⟩
        · exact ⟨_, a1, (cellOk_own b2).mpr ⟨a, o', rfl, b3, b4, b5, a5⟩⟩
        · obtain ⟨y, hy, ok⟩ := c1.cell i w hw
          refine ⟨y, hy, ?_⟩
          by_cases how : isOwn w = true
          · obtain ⟨b, z, y1, _, _, y3, y4, y5, y6⟩ := others ne hw how
            rw [hy] at y1
            cases y1
            exact (cellOk_own how).mpr ⟨b, z, rfl, y3, y4, y5, y6⟩
          · cases w with
            | dead => trivial
            | sh d => obtain ⟨v', z1, z2⟩ := ok; exact ⟨v', z1, dp_mono s1 z2⟩
            | fd tk kvs => obtain ⟨p, ob, u, z1, z2, z3⟩ := ok; exact ⟨p, ob, u, z1, s1 _ _ z2, dictOb_mono s1 z3⟩
            | _ => exact absurd rfl how
      · rcases get_set_cases h1 with ⟨rfl, rfl, _⟩ | ⟨ne1, g1'⟩
        · rcases get_set_cases h2 with ⟨rfl, rfl, _⟩ | ⟨ne2, g2'⟩
          · rfl
          · obtain ⟨b', _, y1, y2, _⟩ := others ne2 g2' o2
            rw [a1] at t1; rw [y1] at t2
            cases t1; cases t2
            exact absurd rfl y2
        · rcases get_set_cases h2 with ⟨rfl, rfl, _⟩ | ⟨ne2, g2'⟩
          · obtain ⟨b', _, y1, y2, _⟩ := others ne1 g1' o1
            rw [a1] at t2; rw [y1] at t1
            cases t1; cases t2
            exact absurd rfl y2
          · exact c1.sep i i' w w' b g1' g2' o1 o2 t1 t2
    refine k F' H' v (g1.trans gr) c2 ?_
    by_cases ho : isOwn r = true
    · rw [retC_own ho] at ret
      obtain ⟨b, x, y1, y2, y3, y4, y5⟩ := ret
      refine (retOk_own ho).mpr ⟨b, x, y1, y2, y3, y4, c1.base.free y5, fun i w hw how hs => ?_⟩
      rcases get_set_cases hw with ⟨rfl, rfl, _⟩ | ⟨ne, hw⟩
      · rw [a1] at hs; cases hs
        rw [a2] at y5; cases y5
      · obtain ⟨b', z, y1', _, y3', _⟩ := others ne hw how
        rw [y1'] at hs; cases hs
        rw [y3'] at y5; cases y5
    · cases r with
      | dead => exact ret
      | sh d => exact ret
      | fd tk kvs =>
        obtain ⟨_, _, _, _, h, _⟩ := ret
        exact h.elim
      | _ => exact absurd rfl ho
def shapeOk (i0 : Nat) (sh : List Bool) : Bool := decide (i0 < sh.length) && (List.range sh.length).all fun i => (sh[i]? == some false) == decide (i = i0)
theorem shapeOk_iff (h : shapeOk i0 sh = true) : (∀ i b, sh[i]? = some b → (b = false ↔ i = i0)) ∧ i0 < sh.length := by
  unfold shapeOk at h
  rw [Bool.and_eq_true] at h
  refine ⟨fun i b hb => ?_, of_decide_eq_true h.1⟩
  have hi : i < sh.length := (List.getElem?_eq_some_iff.mp hb).1
  have := List.all_eq_true.mp h.2 i (List.mem_range.mpr hi)
  rw [hb] at this
  have this := beq_iff_eq.mp this
  constructor
  · intro e; subst e
    exact of_decide_eq_true (this.symm.trans (by rfl))
  · intro e
    rw [decide_eq_true e] at this
    have := beq_iff_eq.mp this
    cases this; rfl
theorem dc_call1 (F : FnD X.prog X.w X.K X.mg X.base k f fd ps [i0] m) (hr : Room k X.A) (hm : X.mg x = some (.ref f)) (hk : PySem.W.keepIn X.K (.ref f) = true) (hb : Binds X.K fd ps []) (ha : DR X j sh (e :: es) t fr) (hsh : shapeOk i0 sh = true := by decide) (hn : sh.length = ps.length := by decide) (hg : Gl X x := by rfl)
    (hdb : (x == ("__debug__" : Str)) = false := by decide) (he : starEach (e :: es) X.env = (false, eval e X.env) :: starEach es X.env := by rfl) (hpl : (backTo pos (starEach es X.env)).any (·.1) = false := by rfl) :
    DC X (.Call (.Name x p) (e :: es) [] pos) (tCall (fun vs H Q E => vs.length = ps.length ∧ spD X.K [i0] m vs H Q E) [] E0 t) (eCall1 i0 j m fr) :=
  ⟨pe_call F hr hg hm hk hb .nil pass0 ha.pe hdb he hpl, sc_call1 rfl (shapeOk_iff hsh).1 (shapeOk_iff hsh).2 hn ha.shp ha.se⟩
end
end L2.Pd

namespace L2.Pd
open PySem PySem.Spec PyProof.Rows
/-! ## Own lists read; borrowed -/
section
variable {X : Cx} {i : Expr} {ti : TE} {fi : FE} {x y : Str} {p p1 p2 pos : Pos} {j : Nat}
/-- x[i], x an own list -/
def eIxOwn (j : Nat) (fi : FE) : FE := fun ρ => (ownL j ρ).bind fun _ => (fi ρ).bind fun q => (ownL j q.2).bind fun ds => (intD q.1).bind fun k => (atI ds k).map fun d => (d, q.2)
theorem de_ixOwn (j : Nat) (hi : DE X i ti fi) (hN : X.N[j]? = some x := by rfl) (hv : Vis X.env.scope x := by first | exact Or.inl rfl | exact Or.inr (Or.inl rfl) | exact Or.inr (Or.inr rfl)) (hd : (x == ("__debug__" : Str)) = false := by decide)
    (hcd : (x == ("__classdict__" : Str)) = false := by decide) (hs : PlainIx i := by exact fun _ _ => rfl) : DE X (.Subscript (.Name x p1) i pos) (tOp (rIx X.K) (tVar j) ti) (eIxOwn j fi) := by
  refine ⟨pe_ix ix_seq (pe_var hN hv hd hcd) hi.pe hs, ?_⟩
  intro B F io σ H ρ d ρ' Q c e k
  obtain ⟨ds0, z0, e⟩ := Option.bind_eq_some_iff.mp e
  obtain ⟨q, e1, e⟩ := Option.bind_eq_some_iff.mp e
  obtain ⟨ds, z1, e⟩ := Option.bind_eq_some_iff.mp e
  obtain ⟨n, z2, e⟩ := Option.bind_eq_some_iff.mp e
  obtain ⟨d', z3, e4⟩ := Option.map_eq_some_iff.mp e
  cases e4
  obtain ⟨a, _, s1, _, _⟩ := own_list c z0
  refine ⟨.ref a, s1, hi.se B F io σ H ρ q.1 q.2 _ c e1 fun F1 H1 v g1 c1 d1 => ?_⟩
  obtain ⟨a', vs, s2, h2, d2⟩ := own_list c1 z1
  have ea : a' = a := by rw [s1] at s2; cases s2; rfl
  subst ea
  rw [intD_eq z2] at d1
  cases d1
  obtain ⟨w, e5, e6⟩ := atI_dp d2 z3
  exact .inl ⟨a', vs, n, w, rfl, rfl, .inl (.inl h2), e5, k F1 H1 w g1 c1 e6⟩
/-- len(x), x an own list -/
def eLenOwn (j : Nat) : FE := fun ρ => (ownL j ρ).map fun ds => (.int ds.length, ρ)
theorem de_lenOwn (j : Nat) (hm : X.mg "len" = none) (hN : X.N[j]? = some x := by rfl) (hv : Vis X.env.scope x := by first | exact Or.inl rfl | exact Or.inr (Or.inl rfl) | exact Or.inr (Or.inr rfl)) (hd : (x == ("__debug__" : Str)) = false := by decide)
    (hcd : (x == ("__classdict__" : Str)) = false := by decide) (hg : Gl X "len" := by rfl) (he : starEach [.Name x p1] X.env = (false, eval (.Name x p1) X.env) :: starEach [] X.env := by rfl) (hpl : (backTo pos (starEach [] X.env)).any (·.1) = false := by rfl) :
    DE X (.Call (.Name "len" p) [.Name x p1] [] pos) (tCB (rLen X.K) (tCons (tVar j) tNil)) (eLenOwn j) := by
  refine ⟨pe_callB call_len hg hm (by decide +kernel) (pa_cons (pe_var hN hv hd hcd) pa_nil he) (by decide) (by decide) he hpl, ?_⟩
  intro B F io σ H ρ d ρ' Q c e k
  obtain ⟨ds, z0, e4⟩ := Option.map_eq_some_iff.mp e
  cases e4
  obtain ⟨a, vs, s1, h1, d1⟩ := own_list c z0
  exact ⟨.ref a, s1, _, _, rfl, .inl ⟨vs, .inl (.inl h1), rfl⟩, k F H _ (Gr.refl _ _) c (by rw [d1.length]; exact .int _)⟩
end
/-! ### a list lent for the while of an expression -/
mutual
def noL : D → Bool
  | .list _ => false
  | .tuple ds => noLs ds
  | .dict _ => false
  | _ => true
def noLs : List D → Bool
  | [] => true
  | d :: r => noL d && noLs r
end
def noLC : Cell → Bool
  | .dead => true
  | .sh d => noL d
  | .ol ds => noLs ds
  | .od _ kvs => noLs (kvs.map (·.2))
  | .fd _ kvs => noLs (kvs.map (·.2))
def without (F : Hp) (a : Addr) : Hp := fun b => if b = a then none else F b
theorem without_ne {F : Hp} {a b : Addr} (h : b ≠ a) : without F a b = F b := if_neg h
theorem without_at {F : Hp} {a : Addr} : without F a a = none := if_pos rfl
section
variable {K : PySem.W.Frag} {F : Hp} {a : Addr} {ws : List V}
theorem sqT_without (h : F a = some (.lst ws)) {b : Addr} {xs : List V} (q : SqT K F b xs) : SqT K (without F a) b xs := by
  rcases q with (q | ⟨o, q⟩) | q
  · exact .inl (.inl (by rw [without_ne (fun z => by subst z; rw [h] at q; cases q)]; exact q))
  · exact .inl (.inr ⟨o, by rw [without_ne (fun z => by subst z; rw [h] at q; cases q)]; exact q⟩)
  · exact .inr q
mutual
theorem dp_without (h : F a = some (.lst ws)) : ∀ {d : D} {v : V}, Dp K F v d → noL d = true → Dp K (without F a) v d
  | .none, _, q, _ => by cases q; exact .non
  | .bool _, _, q, _ => by cases q; exact .bl _
  | .int _, _, q, _ => by cases q; exact .int _
  | .str _, _, q, _ => by cases q; exact .str _
  | .list ds, _, _, n => by simp [noL] at n
  | .dict ds, _, _, n => by simp [noL] at n
  | .tuple ds, _, q, n => by
    cases q with
    | tup q r => exact .tup (sqT_without h q) (dpAll_without h r (by simpa [noL] using n))
theorem dpAll_without (h : F a = some (.lst ws)) : ∀ {ds : List D} {vs : List V}, DpAll K F vs ds → noLs ds = true → DpAll K (without F a) vs ds
  | [], _, q, _ => by cases q; exact .nil
  | d :: ds, _, q, n => by
    rw [noLs, Bool.and_eq_true] at n
    cases q with
    | cons q r => exact .cons (dp_without h q n.1) (dpAll_without h r n.2)
end
theorem kvK_without (h : F a = some (.lst ws)) : ∀ {kvs : List (D × D)} {us : List (Key × V)}, KvK K F kvs us → noLs (kvs.map (·.2)) = true → KvK K (without F a) kvs us
  | [], _, q, _ => by cases q; exact .nil
  | p :: r, _, q, n => by
    cases q with
    | cons q t =>
      have n : noLs (p.2 :: r.map (·.2)) = true := n
      rw [noLs, Bool.and_eq_true] at n
      exact .cons ⟨q.1, dp_without h q.2 n.1⟩ (kvK_without h t n.2)
theorem kvT_without (h : F a = some (.lst ws)) : ∀ {kvs : List (D × D)} {us : List (List Key × V)}, KvT K F kvs us → noLs (kvs.map (·.2)) = true → KvT K (without F a) kvs us
  | [], _, q, _ => by cases q; exact .nil
  | p :: r, _, q, n => by
    cases q with
    | cons q t =>
      have n : noLs (p.2 :: r.map (·.2)) = true := n
      rw [noLs, Bool.and_eq_true] at n
      exact .cons ⟨q.1, dp_without h q.2 n.1⟩ (kvT_without h t n.2)
theorem dictOb_without (h : F a = some (.lst ws)) {kvs : List (D × D)} {tk : Bool} {u : HO} (q : DictOb K F kvs tk u) (n : noLs (kvs.map (·.2)) = true) : DictOb K (without F a) kvs tk u := by
  cases tk <;> cases u <;> first
    | exact kvK_without h q n
    | exact kvT_without h q n
    | exact q.elim
theorem ob_without (h : F a = some (.lst ws)) {c : Cell} {o : HO} (q : Ob K F c o) (n : noLC c = true) : Ob K (without F a) c o := by
  cases c with
  | od tk kvs => exact dictOb_without h q n
  | _ =>
    cases o <;> first
      | exact False.elim q
      | exact dpAll_without h q n
      | exact q
end
def beqKvs : List (D × D) → List (D × D) → Bool
  | [], [] => true
  | (k, d) :: r, (l, e) :: s => beqD k l && beqD d e && beqKvs r s
  | _, _ => false
theorem beqKvs_eq : ∀ {a b : List (D × D)}, beqKvs a b = true → a = b
  | [], [], _ => rfl
  | [], _ :: _, h => by simp [beqKvs] at h
  | _ :: _, [], h => by simp [beqKvs] at h
  | (k, d) :: r, (l, e) :: s, h => by
    simp only [beqKvs, Bool.and_eq_true] at h
    rw [beqD_eq h.1.1, beqD_eq h.1.2, beqKvs_eq h.2]
def beqC : Cell → Cell → Bool
  | .dead, .dead => true
  | .sh a, .sh b => beqD a b
  | .ol a, .ol b => beqDs a b
  | .od t a, .od u b => decide (t = u) && beqKvs a b
  | _, _ => false
theorem beqC_eq {a b : Cell} (h : beqC a b = true) : a = b := by
  cases a <;> cases b <;> first
    | rfl
    | (cases h; done)
    | (exact congrArg _ (beqD_eq h))
    | (exact congrArg _ (beqDs_eq h))
    | (have h := Bool.and_eq_true_iff.mp h; rw [of_decide_eq_true h.1, beqKvs_eq h.2])
/-- each cell has no list within, or is shared data as before -/
def lentOk : En → En → Bool
  | [], _ => true
  | c :: r, ρ => (noLC c || (match c, ρ with | .sh d, .sh e :: _ => beqD d e | _, _ => false)) && lentOk r ρ.tail
theorem lentOk_get : ∀ {ρ' ρ : En} {i : Nat} {c : Cell}, lentOk ρ' ρ = true → ρ'[i]? = some c → noLC c = true ∨ (∃ d, c = .sh d ∧ ρ[i]? = some (.sh d))
  | [], _, i, c, _, e => by simp at e
  | u :: r, ρ, 0, c, h, e => by
    simp at e; subst e
    simp only [lentOk, Bool.and_eq_true, Bool.or_eq_true] at h
    rcases h.1 with h1 | h1
    · exact .inl h1
    · cases u <;> cases ρ with
      | nil => cases h1
      | cons d s => cases d <;> first | (cases h1; done) | exact .inr ⟨_, rfl, by rw [beqD_eq h1]; rfl⟩
  | u :: r, ρ, i + 1, c, h, e => by
    simp only [lentOk, Bool.and_eq_true] at h
    have := lentOk_get (ρ' := r) (ρ := ρ.tail) (i := i) (c := c) h.2 (by simpa using e)
    rcases this with q | ⟨d, q1, q⟩
    · exact .inl q
    · cases ρ with
      | nil => simp at q
      | cons d s => exact .inr ⟨_, q1, by simpa using q⟩
theorem Con.lend {K : PySem.W.Frag} {B F F' H H' : Hp} {io : List (Nat × Addr)} {σ : St} {ρ ρ' : En} {j : Nat} {ds : List D} {a : Addr} {vs : List V} (c : Con K B F io σ H ρ) (h : ownL j ρ = some ds) (ha : σ[j]? = some (some (.ref a))) (hh : H a = some (.lst vs)) (dv : DpAll K F vs ds)
    (g : Gr B (upd F a (.lst vs)) F') (c' : Con K B F' io σ H' ρ') (ok : lentOk (ρ'.set j .dead) ρ = true) : Gr B F (without F' a) ∧ Con K B (without F' a) io σ H' (ρ'.set j (.ol ds)) ∧ F' a = some (.lst vs) := by
  obtain ⟨a0, o0, h1, h2, h3, h4, h5⟩ := c.own (ownL_eq h) rfl
  have ea : a0 = a := by rw [ha] at h1; cases h1; rfl
  subst ea
  have fa : F' a0 = some (.lst vs) := g.sub _ _ upd_same
  have sF : Same F (without F' a0) := fun b x e => by
    have nb : b ≠ a0 := fun z => by subst z; rw [h4] at e; cases e
    rw [without_ne nb]
    exact g.sub b x (by rw [upd_ne nb]; exact e)
  have sub : ∀ b x, without F' a0 b = some x → b ≠ a0 ∧ F' b = some x := fun b x e => by
    by_cases z : b = a0
    · subst z; rw [without_at] at e; cases e
    · rw [without_ne z] at e; exact ⟨z, e⟩
  have gr : Gr B F (without F' a0) := ⟨sF, fun b x e => by
    obtain ⟨nb, e⟩ := sub b x e
    rcases g.new b x e with q | q
    · rw [upd_ne nb] at q; exact .inl q
    · exact .inr q⟩
  have ha' : H' a0 = some (.lst vs) := c'.frz _ _ fa
  refine ⟨gr, ⟨by rw [List.length_set, c'.len], c'.base, fun b x e => c'.frz b x (sub b x e).2, fun i w hw => ?_, fun i i' w w' b q1 q2 o1 o2 t1 t2 => ?_, c'.io⟩, fa⟩
  · rcases get_set_cases hw with ⟨rfl, rfl, hl⟩ | ⟨ne, hw⟩
    · exact ⟨_, ha, (cellOk_own rfl).mpr ⟨a0, .lst vs, rfl, ha', dpAll_mono sF dv, without_at, h5⟩⟩
    · obtain ⟨y, hy, okc⟩ := c'.cell i w hw
      refine ⟨y, hy, ?_⟩
      have hset : (ρ'.set j .dead)[i]? = some w := by rw [List.getElem?_set_ne (Ne.symm ne)]; exact hw
      rcases lentOk_get ok hset with hn | ⟨d, rfl, hs⟩
      · by_cases how : isOwn w = true
        · rw [cellOk_own how] at okc ⊢
          obtain ⟨b, z, y1, y2, y3, y4, y5⟩ := okc
          refine ⟨b, z, y1, y2, ob_without fa y3 hn, ?_, y5⟩
          by_cases nb : b = a0
          · subst nb; exact without_at
          · rw [without_ne nb]; exact y4
        · cases w with
          | dead => trivial
          | sh d => obtain ⟨v, z1, z2⟩ := okc; exact ⟨v, z1, dp_without fa z2 hn⟩
          | fd tk kvs =>
            obtain ⟨p, ob, u, z1, z2, z3⟩ := okc
            exact ⟨p, ob, u, z1, by rw [without_ne (fun z => by subst z; rw [fa] at z2; cases z2)]; exact z2, dictOb_without fa z3 hn⟩
          | _ => exact absurd rfl how
      · obtain ⟨y2, hy2, ok2⟩ := c.cell i _ hs
        have ey : y2 = y := by rw [hy] at hy2; cases hy2; rfl
        subst ey
        obtain ⟨v, z1, z2⟩ := ok2
        exact ⟨v, z1, dp_mono sF z2⟩
  · have key : ∀ (i : Nat) (w : Cell), i ≠ j → ρ'[i]? = some w → isOwn w = true → σ[i]? ≠ some (some (.ref a0)) := fun i w ne hw how q => by
      obtain ⟨a1, o1, e1, _, _, e4, _⟩ := c'.own hw how
      rw [q] at e1
      cases e1
      rw [fa] at e4
      cases e4
    rcases get_set_cases q1 with ⟨rfl, rfl, _⟩ | ⟨ne1, g1⟩
    · rcases get_set_cases q2 with ⟨rfl, rfl, _⟩ | ⟨ne2, g2⟩
      · rfl
      · rw [ha] at t1
        cases t1
        exact absurd t2 (key i' w' ne2 g2 o2)
    · rcases get_set_cases q2 with ⟨rfl, rfl, _⟩ | ⟨ne2, g2⟩
      · rw [ha] at t2
        cases t2
        exact absurd t1 (key i w ne1 g1 o1)
      · exact c'.sep i i' w w' b g1 g2 o1 o2 t1 t2
/-! the wrappers: slot j is lent -/
def lendB (j : Nat) (ds : List D) (ρ ρ' : En) : Option En := if lentOk (ρ'.set j .dead) ρ = true then some (ρ'.set j (.ol ds)) else none
def eBor (j : Nat) (f : FE) : FE := fun ρ => (ownL j ρ).bind fun ds => (f (ρ.set j (.sh (.list ds)))).bind fun p => if noL p.1 = true then (lendB j ds ρ p.2).map fun ρ' => (p.1, ρ') else none
def eBorT (j : Nat) (f : FT) : FT := fun ρ => (ownL j ρ).bind fun ds => (f (ρ.set j (.sh (.list ds)))).bind fun p => (lendB j ds ρ p.2).map fun ρ' => (p.1, ρ')
def eBorN (j : Nat) (f : FN) : FN := fun ρ => (ownL j ρ).bind fun ds => (f (ρ.set j (.sh (.list ds)))).bind fun p => if noLC p.1 = true then (lendB j ds ρ p.2).map fun ρ' => (p.1, ρ') else none
theorem lendB_eq {j : Nat} {ds : List D} {ρ ρ' r : En} (h : lendB j ds ρ ρ' = some r) : lentOk (ρ'.set j .dead) ρ = true ∧ r = ρ'.set j (.ol ds) := by
  unfold lendB at h
  split at h
  · cases h; exact ⟨by assumption, rfl⟩
  · cases h
theorem se_bor {K : PySem.W.Frag} {t : TE} {f : FE} (j : Nat) (h : SE K t f) : SE K t (eBor j f) := by
  intro B F io σ H ρ d ρ' Q c e k
  obtain ⟨ds, z0, e⟩ := Option.bind_eq_some_iff.mp e
  obtain ⟨p, e1, e⟩ := Option.bind_eq_some_iff.mp e
  obtain ⟨a, vs, h1, h2, dv, g, dd, cf⟩ := c.freezeV (ownL_eq z0)
  by_cases hn : noL p.1 = true
  · rw [if_pos hn] at e
    obtain ⟨r, e2, e3⟩ := Option.map_eq_some_iff.mp e
    cases e3
    obtain ⟨ok, rfl⟩ := lendB_eq e2
    refine h B _ io σ H _ p.1 p.2 _ cf e1 fun F1 H1 v g1 c1 d1 => ?_
    obtain ⟨g2, c2, fa⟩ := Con.lend c z0 h1 h2 dv g1 c1 ok
    exact k _ H1 v g2 c2 (dp_without fa d1 hn)
  · rw [if_neg hn] at e; cases e
theorem st_bor {K : PySem.W.Frag} {t : TT} {f : FT} (j : Nat) (h : ST K t f) : ST K t (eBorT j f) := by
  intro B F io σ H ρ d ρ' Q c e k
  obtain ⟨ds, z0, e⟩ := Option.bind_eq_some_iff.mp e
  obtain ⟨p, e1, e⟩ := Option.bind_eq_some_iff.mp e
  obtain ⟨a, vs, h1, h2, dv, g, dd, cf⟩ := c.freezeV (ownL_eq z0)
  obtain ⟨r, e2, e3⟩ := Option.map_eq_some_iff.mp e
  cases e3
  obtain ⟨ok, rfl⟩ := lendB_eq e2
  refine h B _ io σ H _ p.1 p.2 _ cf e1 fun F1 H1 g1 c1 => ?_
  obtain ⟨g2, c2, fa⟩ := Con.lend c z0 h1 h2 dv g1 c1 ok
  exact k _ H1 g2 c2
theorem sn_bor {K : PySem.W.Frag} {t : TE} {f : FN} (j : Nat) (h : SN K t f) : SN K t (eBorN j f) := by
  intro B F io σ H ρ d ρ' Q c e k
  obtain ⟨ds, z0, e⟩ := Option.bind_eq_some_iff.mp e
  obtain ⟨p, e1, e⟩ := Option.bind_eq_some_iff.mp e
  obtain ⟨a, vs, h1, h2, dv, g, dd, cf⟩ := c.freezeV (ownL_eq z0)
  by_cases hn : noLC p.1 = true
  · rw [if_pos hn] at e
    obtain ⟨r, e2, e3⟩ := Option.map_eq_some_iff.mp e
    cases e3
    obtain ⟨ok, rfl⟩ := lendB_eq e2
    refine h B _ io σ H _ p.1 p.2 _ cf e1 fun F1 H1 b o g1 c1 hb ob fb bb no => ?_
    obtain ⟨g2, c2, fa⟩ := Con.lend c z0 h1 h2 dv g1 c1 ok
    have nb : b ≠ a := fun z => by subst z; rw [fa] at fb; cases fb
    refine k _ H1 b o g2 c2 hb (ob_without fa ob hn) (by rw [without_ne nb]; exact fb) bb fun i w hw how q => ?_
    rcases get_set_cases hw with ⟨rfl, rfl, _⟩ | ⟨ne, hw⟩
    · rw [h1] at q; cases q; exact nb rfl
    · exact no i w hw how q
  · rw [if_neg hn] at e; cases e
theorem de_bor {X : Cx} {e : Expr} {t : TE} {f : FE} (j : Nat) (h : DE X e t f) : DE X e t (eBor j f) := ⟨h.pe, se_bor j h.se⟩
theorem dt_bor {X : Cx} {e : Expr} {t : TT} {f : FT} (j : Nat) (h : DT X e t f) : DT X e t (eBorT j f) := ⟨h.pe, st_bor j h.se⟩
theorem dn_bor {X : Cx} {e : Expr} {t : TE} {f : FN} (j : Nat) (h : DN X e t f) : DN X e t (eBorN j f) := ⟨h.pe, sn_bor j h.se⟩
end L2.Pd

namespace L2.Pd
open PySem PySem.Spec PyProof.Rows
/-! ## A def as its callers know it -/
/-- the text's def x, as the top has left it -/
structure Src (K : PySem.W.Frag) (mg : Str → Option Value) (x : Str) (st : Stmt) (ps : List Str) : Prop where
  ex : ∃ (f : Addr) (fd : FuncData), Fun K x x st f fd ∧ mg x = some (.ref f) ∧ Binds K fd ps []
/-- the def x keeps the promise m -/
structure Cal (P : Program) (w : World) (K : PySem.W.Frag) (mg : Str → Option Value) (base : Heap) (k : Nat) (x : Str) (ps : List Str) (ios : List Nat) (m : FnS) : Prop where
  ex : ∃ (f : Addr) (fd : FuncData), FnD P w K mg base k f fd ps ios m ∧ mg x = some (.ref f) ∧ PySem.W.keepIn K (.ref f) = true ∧ Binds K fd ps []
section
variable {P : Program} {w : World} {K : PySem.W.Frag} {mg : Str → Option Value} {base : Heap}
theorem pd_cal {x : Str} {st : Stmt} {N ps : List Str} {k : Nat} (ios : List Nat) {n : Nat} {body : FS} (S : Src K mg x st ps) (C : FnScope N ps (defScope st)) (hn : N.length = n := by rfl)
    (hbody : ∀ (f : Addr) (cdv : Value) (A : Around) (outer : List Env) (s : Shared) (H : Hp) (E : XK), Room k (A.deeper (envOfC x (defScope st) s.heap.objs.size f cdv)) →
      ∃ t, DSs (cxOf CX0 P w K mg base N x (defScope st) f cdv A outer s H E).nox ios (defBody st) t body) :
    Cal P w K mg base (k + 1) x ps ios (fnSem n ios body) := by
  subst hn
  obtain ⟨f, fd, F, hm, hb⟩ := S.ex
  refine ⟨f, fd, pd_fn ios F C (fun cs r _ hl => ?_) (hbody f), hm, F.kp, hb⟩
  rw [hl, ← C.pre, List.length_take]
  exact Nat.min_le_right _ _
theorem pd_fnN {x : Str} {st : Stmt} {f : Addr} {fd : FuncData} {N ps : List Str} {k : Nat} (ios : List Nat) {n : Nat} {body : FS} (Fn : Fun K x x st f fd) (C : FnScope N ps (defScope st)) (hn : N.length = n := by rfl)
    (hbody : ∀ (cdv : Value) (A : Around) (outer : List Env) (s : Shared) (H : Hp) (E : XK), Room k (A.deeper (envOfC x (defScope st) s.heap.objs.size f cdv)) →
      ∃ t, DSs (cxOf CX0 P w K mg base N x (defScope st) f cdv A outer s H E).nox ios (defBody st) t body) : FnD P w K mg base (k + 1) f fd ps ios (fnSem n ios body) := by
  subst hn
  refine pd_fn ios Fn C (fun cs r _ hl => ?_) hbody
  rw [hl, ← C.pre, List.length_take]
  exact Nat.min_le_right _ _
theorem src_mk {x : Str} {st : Stmt} {ps : List Str} {f : Addr} {oc : Value} {od an : Option Addr} {osl : Array (Option Value)} {kV doc pm cdv ct : Value} (hm : mg x = some (.ref f)) (l : K.lookup f = some ⟨oc, od, .func (PySem.W.fnOf x x (defArgs st) (defBody st) (defScope st) .none kV doc pm an cdv ct), osl⟩)
    (c : PySem.W.codeIn K cdv x = true) (k : PySem.W.keepIn K (.ref f) = true)
    (h : ∀ (kV doc pm : Value) (an : Option Addr) (cdv ct : Value) (us : List Value), us.length = ps.length → bindArgs (PySem.W.fnOf x x (defArgs st) (defBody st) (defScope st) .none kV doc pm an cdv ct) ⟨us, []⟩ = pure (ps.zip us)) : Src K mg x st ps := by
  have F := fun_mk l c k
  exact ⟨f, _, F, hm, F.binds h⟩
theorem cal_none {x : Str} {st : Stmt} {ps : List Str} {k : Nat} {ios : List Nat} (S : Src K mg x st ps) : Cal P w K mg base k x ps ios (fun _ => none) := by
  obtain ⟨f, fd, F, hm, hb⟩ := S.ex
  refine ⟨f, fd, ⟨fun vs H Q E h => ?_, fun A outer s H args us vs Q E hr => ?_⟩, hm, F.kp, hb⟩
  · exact h.1
  · rintro - - - ⟨-, F, cs, cs', r, -, -, hm, -⟩
    cases hm
theorem Cal.cast {j k : Nat} {x : Str} {ps : List Str} {ios : List Nat} {m : FnS} (h : Cal P w K mg base k x ps ios m) (e : k = j) : Cal P w K mg base j x ps ios m := e ▸ h
/-- a constant of the module -/
structure Kon (K : PySem.W.Frag) (mg : Str → Option Value) (x : Str) (v : V) (d : D) : Prop where
  ex : ∃ (u : Value), mg x = some u ∧ RelV v u ∧ ∀ F, Dp K F v d
/-- a tuple that the top has written -/
theorem kon_tup {h : Heap} {x : Str} {a : Addr} {its : Array Value} {n : Nat} {od : Option Addr} {sl : Array (Option Value)} {xs : List V} {ds : List D} (X : K.In h) (G : h.Ns mainGlobals mg) (e : PySem.W.nsIn K mainGlobals x = some (some (.ref a))) (l : K.lookup a = some ⟨.type "tuple", od, .seq its n, sl⟩)
    (hs : its.size ≤ sizeLine) (hv : Vals xs its.toList) (hd : ∀ F, DpAll K F xs ds) : Kon K mg x (.ref a) (.tuple ds) :=
  ⟨_, PySem.W.mg_of X G e, rfl, fun F => .tup (.inr ⟨_, its, n, l, rfl, rfl, hs, hv⟩) (hd F)⟩
end
section
variable {X : Cx} {k : Nat} {ps : List Str} {m : FnS} {x : Str} {p pos : Pos} {e : Expr} {es : List Expr} {t : TA} {fa : FA} {fr : FR} {i0 j : Nat} {sh : List Bool}
theorem dc_cal0 (C : Cal X.prog X.w X.K X.mg X.base k x ps [] m) (hr : Room k X.A) (ha : DA X (e :: es) t fa) (hn : aLen fa ps.length) (hg : Gl X x := by rfl)
    (hdb : (x == ("__debug__" : Str)) = false := by decide) (he : starEach (e :: es) X.env = (false, eval e X.env) :: starEach es X.env := by rfl) (hpl : (backTo pos (starEach es X.env)).any (·.1) = false := by rfl) :
    DC X (.Call (.Name x p) (e :: es) [] pos) (tCall (fun vs H Q E => vs.length = ps.length ∧ spD X.K [] m vs H Q E) [] E0 t) (eCall0 m fa) := by
  obtain ⟨f, fd, F, hm, hk, hb⟩ := C.ex
  exact dc_call0 F hr hm hk hb ha hn hg hdb he hpl
theorem dc_cal00 (C : Cal X.prog X.w X.K X.mg X.base k x ps [] m) (hr : Room k X.A) (hn : ps.length = 0 := by rfl) (hg : Gl X x := by rfl)
    (hdb : (x == ("__debug__" : Str)) = false := by decide) :
    DC X (.Call (.Name x p) [] [] pos) (tCall (fun vs H Q E => vs.length = ps.length ∧ spD X.K [] m vs H Q E) [] E0 tNil) (eCall0 m aNil) := by
  obtain ⟨f, fd, F, hm, hk, hb⟩ := C.ex
  exact dc_call00 F hr hm hk hb hn hg hdb
theorem dc_cal1 (C : Cal X.prog X.w X.K X.mg X.base k x ps [i0] m) (hr : Room k X.A) (ha : DR X j sh (e :: es) t fr) (hsh : shapeOk i0 sh = true := by decide) (hn : sh.length = ps.length := by decide) (hg : Gl X x := by rfl)
    (hdb : (x == ("__debug__" : Str)) = false := by decide) (he : starEach (e :: es) X.env = (false, eval e X.env) :: starEach es X.env := by rfl) (hpl : (backTo pos (starEach es X.env)).any (·.1) = false := by rfl) :
    DC X (.Call (.Name x p) (e :: es) [] pos) (tCall (fun vs H Q E => vs.length = ps.length ∧ spD X.K [i0] m vs H Q E) [] E0 t) (eCall1 i0 j m fr) := by
  obtain ⟨f, fd, F, hm, hk, hb⟩ := C.ex
  exact dc_call1 F hr hm hk hb ha hsh hn hg hdb he hpl
theorem de_kon {v : V} {d : D} (C : Kon X.K X.mg x v d) (hg : Gl X x := by rfl) (hd : (x == ("__debug__" : Str)) = false := by decide) : DE X (.Name x pos) (tC v) (eC d) := by
  obtain ⟨u, hm, r, h⟩ := C.ex
  exact de_glob hm r h hg hd
theorem hu_of' {A : Around} {k : Nat} (hr : Room k A) : A.units + 100 < cLine := by have := hr.un; omega
end
/-! ## x op= e for ints and texts -/
section
variable {X : Cx} {K : PySem.W.Frag}
abbrev rIaddD : R2 := fun x y H Q => rI0 (fun i j => .int (i + j)) x y H Q ∨ (∃ i j, x = .str i ∧ y = .str j ∧ i.length + j.length ≤ sizeLine ∧ Q (.str (i ++ j)) H)
theorem ip_addD : OpR X (inplaceOp .Add) rIaddD := iop_add.or iop_add_str
def dIadd : D → D → Option D
  | .int a, .int b => some (.int (a + b))
  | .str a, .str b => if a.length + b.length ≤ sizeLine then some (.str (a ++ b)) else none
  | _, _ => none
theorem v_iadd : Op2 K rIaddD dIadd := by
  intro F H x y dx dy d Q s hx hy e k
  cases hx with
  | int a =>
    cases hy with
    | int b => cases e; exact .inl ⟨a, b, rfl, rfl, k F H _ (Al.refl s) (.int _)⟩
    | _ => cases e
  | str a =>
    cases hy with
    | str b =>
      have e : (if a.length + b.length ≤ sizeLine then some (PyData.str (a ++ b)) else none) = some d := e
      by_cases hz : a.length + b.length ≤ sizeLine
      · rw [if_pos hz] at e; cases e
        exact .inr ⟨a, b, rfl, rfl, hz, k F H _ (Al.refl s) (.str _)⟩
      · rw [if_neg hz] at e; cases e
    | _ => cases e
  | _ => cases e
theorem ip_subD : OpR X (inplaceOp .Sub) (rI0 fun i j => .int (i - j)) := iop_sub
theorem ip_mulD : OpR X (inplaceOp .Mult) (rI IntMulOk fun i j => .int (i * j)) := opI fun _ _ _ _ _ _ _ hc q => imul_int q hc
theorem ip_fdivD : OpR X (inplaceOp .FloorDiv) (rI CFd fun i j => .int (i.fdiv j)) := opI fun _ _ _ _ _ _ _ hc q => ifloordiv_int hc.1 q (.inl hc.2)
theorem ip_modD : OpR X (inplaceOp .Mod) (rI (fun _ j => j ≠ 0) fun i j => .int (i.fmod j)) := opI fun _ _ _ _ _ _ _ hc q => imod_int hc q
/-! ### lists: a + b -/
def rCatL (K : PySem.W.Frag) : R2 := fun x y H Q => ∃ l b xs zs, x = .ref l ∧ y = .ref b ∧ SqL K H l xs ∧ SqL K H b zs ∧ xs.length + zs.length ≤ sizeLine ∧ ∀ p, H p = none → Q (.ref p) (upd H p (.lst (xs ++ zs)))
theorem op_addL : OpR X (binaryOp .Add) (rCatL X.K) := by
  intro pins s σ H x y v u Q I rx ry h
  obtain ⟨l, b, xs, zs, rfl, rfl, hH, hB, hz, q⟩ := h
  cases rx
  cases ry
  obtain ⟨its, r, ht, _⟩ := I.list hH
  obtain ⟨its2, r2, ht2, _⟩ := I.list hB
  have e1 := r.length
  have e2 := r2.length
  obtain ⟨⟨cls, dd, data, sl⟩, ho, hc, n, hd⟩ := ht.isList
  obtain ⟨⟨cls2, dd2, data2, sl2⟩, ho2, hc2, n2, hd2⟩ := ht2.isList
  simp only at hc hd hc2 hd2
  subst hc hd hc2 hd2
  have ea : its.toArray ++ its2.toArray = (its ++ its2).toArray := by simp
  refine concat_meets ⟨_, ho, rfl⟩ ⟨_, ho2, rfl⟩ noFill_list_add seq_list_add PySem.F.slot_list_add PySem.F.entry_list_add (PySem.F.args_list_add_2 _ _) (list_addW l b its.toArray its2.toArray n n2 dd dd2 sl sl2 (by rw [List.size_toArray, List.size_toArray]; omega)) ⟨ho, ho2, ?_⟩
  rw [ea]
  exact ⟨.ref _, _, I.lnew (t' := s.toks) (r.append r2) (by rw [List.length_append]; omega), rfl, q _ I.fresh⟩
def dAddL : D → D → Option Cell
  | .list a, .list b => if a.length + b.length ≤ sizeLine then some (.ol (a ++ b)) else none
  | _, _ => none
theorem v_addL : Op2N K (rCatL K) dAddL := by
  intro F H x y dx dy c Q s hx hy e k
  cases hx with
  | @lst a xs ds q1 r1 =>
    cases hy with
    | @lst b ys es q2 r2 =>
      have e : (if ds.length + es.length ≤ sizeLine then some (Cell.ol (ds ++ es)) else none) = some c := e
      by_cases hz : ds.length + es.length ≤ sizeLine
      · rw [if_pos hz] at e; cases e
        refine ⟨a, b, xs, ys, rfl, rfl, s.seq q1, s.seq q2, by rw [r1.length, r2.length]; exact hz, fun p np => ?_⟩
        exact k F _ p (.lst (xs ++ ys)) (Al.laidH s np) upd_same (r1.append r2) (s.free np) np
      · rw [if_neg hz] at e; cases e
    | _ => cases e
  | _ => cases e
/-- a + b of ints, texts, tuples; of lists, frozen -/
abbrev rAddA (K : PySem.W.Frag) : R2 := fun x y H Q => rAddD K x y H Q ∨ rCatL K x y H Q
theorem op_addA : OpR X (binaryOp .Add) (rAddA X.K) := op_addD.or op_addL
def dAddA : D → D → Option D
  | .list a, .list b => if a.length + b.length ≤ sizeLine then some (.list (a ++ b)) else none
  | a, b => dAdd a b
theorem v_addA : Op2 K (rAddA K) dAddA := by
  intro F H x y dx dy d Q s hx hy e k
  by_cases hl : ∃ a b, dx = .list a ∧ dy = .list b
  · obtain ⟨a, b, rfl, rfl⟩ := hl
    refine .inr (v_addL.frz F H x y _ _ d Q s hx hy ?_ k)
    have e : (if a.length + b.length ≤ sizeLine then some (PyData.list (a ++ b)) else none) = some d := e
    show (if a.length + b.length ≤ sizeLine then some (Cell.ol (a ++ b)) else none).bind frzC = some d
    by_cases hz : a.length + b.length ≤ sizeLine
    · rw [if_pos hz] at e ⊢; exact e
    · rw [if_neg hz] at e; cases e
  · refine .inl (v_add F H x y dx dy d Q s hx hy ?_ k)
    cases dx <;> cases dy <;> first | exact e | exact absurd ⟨_, _, rfl, rfl⟩ hl
/-! ### list * int, the list new -/
def eRepN (fa : FN) (fb : FE) : FN := fun ρ => (fa ρ).bind fun p => (fb p.2).bind fun q => match p.1, q.1 with
  | .ol ds, .int n => if -(2 ^ 63) ≤ n ∧ n < 2 ^ 63 ∧ ds.length * n.toNat ≤ sizeLine then some (.ol (List.replicate n.toNat ds).flatten, q.2) else none
  | _, _ => none
theorem _root_.L2.DpAll.rep {F : Hp} {vs : List V} {ds : List D} (h : DpAll K F vs ds) : ∀ n : Nat, DpAll K F (List.replicate n vs).flatten (List.replicate n ds).flatten
  | 0 => .nil
  | n + 1 => by
    rw [List.replicate_succ, List.replicate_succ, List.flatten_cons, List.flatten_cons]
    exact h.append (DpAll.rep h n)
/-! ### list.insert -/
abbrev rInsertD : V → List V → Hp → VK → Prop := fun x vs H Q => ∃ (l : Addr) (xs : List V) (i : Int) (y : V), x = .ref l ∧ vs = [.int i, y] ∧ H l = some (.lst xs) ∧ xs.length < sizeLine ∧ 0 ≤ i ∧ i < 2 ^ 63 ∧ Q .non (upd H l (.lst (xs.take i.toNat ++ [y] ++ xs.drop i.toNat)))
theorem l_insert : OpL K rInsertD lInsert := by
  intro F H a vs xs ds es z Q h d1 d2 e k
  match es, d2, e with
  | [.int i, x], d2, e =>
    obtain ⟨v1, v, rfl, dv1, dv⟩ := two_of d2
    cases dv1
    have e : (if ds.length < sizeLine ∧ 0 ≤ i ∧ i < 2 ^ 63 then some (PyData.none, ds.take i.toNat ++ x :: ds.drop i.toNat) else none) = some z := e
    by_cases hz : ds.length < sizeLine ∧ 0 ≤ i ∧ i < 2 ^ 63
    · rw [if_pos hz] at e; cases e
      refine ⟨a, vs, i, v, rfl, rfl, h, by rw [d1.length]; exact hz.1, hz.2.1, hz.2.2, k _ _ .non ?_⟩
      have := ((d1.take i.toNat).append (DpAll.one dv)).append (d1.drop i.toNat)
      simpa using this
    · rw [if_neg hz] at e; cases e
end
/-! ## The law's own head -/
theorem law_sp {K : PySem.W.Frag} {m : FnS} {a : Addr} {H : Hp} {ns : List Int} {E : XK} (hS : SqL K H a (ns.map V.int)) (hm : ∃ z, m [.sh (.list (ns.map .int))] = some (.sh (.bool true), z)) : [V.ref a].length = ["script"].length ∧ spD K [] m [.ref a] H (fun v _ => v = .bl true) E := by
  obtain ⟨z, hm⟩ := hm
  refine ⟨rfl, H, _, z, _, Same.refl H, rfl, hm, fun i c hc _ => ?_, fun i hi => absurd hi (List.not_mem_nil), fun i j b hi => absurd hi (List.not_mem_nil), ?_⟩
  · match i, hc with
    | 0, hc => cases hc; exact ⟨.ref a, _, rfl, rfl, .lst hS (dp_ints ns)⟩
  · intro F' H' v _ _ _ _ ret _
    cases ret
    rfl
end L2.Pd

namespace L2.Pd
open PySem PySem.Spec PyProof.Rows
/-! ## Comprehensions, the readings of their parts told per entry -/
section
variable {X : Cx} {elt tg iter : Expr} {ifs : List Expr} {scope : Scope} {own : List (Str × Nat)} {pos : Pos} {wi : TI} {lk : Option Nat} {fi : FA} {ws : List Nat} {g1 : FG} {fc : FT} {fe : FE} {L : List Nat}
  {t1 : Shared → Hp → Addr → List (Str × Addr) → List Addr → TG} {tt : Shared → Hp → Addr → List (Str × Addr) → List Addr → TT} {te : Shared → Hp → Addr → List (Str × Addr) → List Addr → TE}
theorem dn_compX (hcm : X.calm = true) (hN : X.N.Nodup) (hi : DI X lk tg iter wi fi) (ok : BlkOk X.N X.env.scope scope own)
    (hg : ∀ (s : Shared) (H : Hp) (C : Addr) (cl : List (Str × Addr)) (fp : List Addr), DG (X.blk s H scope (compEnvC scope cl C X.env) fp) [] ws tg (t1 s H C cl fp) g1) (ht : ∀ (s : Shared) (H : Hp) (C : Addr) (cl : List (Str × Addr)) (fp : List Addr), DTs (X.blk s H scope (compEnvC scope cl C X.env) fp) ifs (tt s H C cl fp) fc)
    (he : ∀ (s : Shared) (H : Hp) (C : Addr) (cl : List (Str × Addr)) (fp : List Addr), DE (X.blk s H scope (compEnvC scope cl C X.env) fp) elt (te s H C cl fp) fe) (hw : ∀ i ∈ ws, i ∈ own.map (·.2) := by decide) (hlv : ∀ j, lk = some j → j ∉ own.map (·.2) := by decide) (hs : ∀ x, foldedSetIterable iter X.env x = pure x := by intro _; rfl)
    (h1 : ∀ s H C cl fp, t1 s H C cl fp = t1 X.s_0 X.H_0 0 [] [] := by exact fun _ _ _ _ _ => rfl) (h2 : ∀ s H C cl fp, tt s H C cl fp = tt X.s_0 X.H_0 0 [] [] := by exact fun _ _ _ _ _ => rfl) (h3 : ∀ s H C cl fp, te s H C cl fp = te X.s_0 X.H_0 0 [] [] := by exact fun _ _ _ _ _ => rfl) :
    DN X (.ListComp elt [⟨tg, iter, ifs, 0⟩] scope pos) (tLc wi (t1 X.s_0 X.H_0 0 [] []) (tt X.s_0 X.H_0 0 [] []) (te X.s_0 X.H_0 0 [] []) (own.map (·.2))) (eComp lk (own.map (·.2)) fi g1 fc fe) :=
  dn_comp hcm hN hi ok (fun s H C cl fp => h1 s H C cl fp ▸ hg s H C cl fp) (fun s H C cl fp => h2 s H C cl fp ▸ ht s H C cl fp) (fun s H C cl fp => h3 s H C cl fp ▸ he s H C cl fp) hw hlv hs
theorem ds_setCompNX {i : Nat} {y : Str} {py spos : Pos} (hcm : X.calm = true) (hN : X.N.Nodup) (hi : DI X lk tg iter wi fi) (ok : BlkOk X.N X.env.scope scope own)
    (hg : ∀ (s : Shared) (H : Hp) (C : Addr) (cl : List (Str × Addr)) (fp : List Addr), DG (X.blk s H scope (compEnvC scope cl C X.env) fp) [] ws tg (t1 s H C cl fp) g1) (ht : ∀ (s : Shared) (H : Hp) (C : Addr) (cl : List (Str × Addr)) (fp : List Addr), DTs (X.blk s H scope (compEnvC scope cl C X.env) fp) ifs (tt s H C cl fp) fc)
    (he : ∀ (s : Shared) (H : Hp) (C : Addr) (cl : List (Str × Addr)) (fp : List Addr), DE (X.blk s H scope (compEnvC scope cl C X.env) fp) elt (te s H C cl fp) fe) (hy : X.N[i]? = some y := by rfl) (hyl : X.env.scope.names.lookup y = some .local := by rfl)
    (hsw : swapsWith (.ListComp elt [⟨tg, iter, ifs, 0⟩] scope pos) (some (.Name y py)) spos.line X.env = pure true := by exact sw_true rfl rfl rfl (by decide +kernel))
    (hw : ∀ i ∈ ws, i ∈ own.map (·.2) := by decide) (hlv : ∀ j, lk = some j → j ∉ own.map (·.2) := by decide) (hl : i ∉ L := by decide) (hs : ∀ x, foldedSetIterable iter X.env x = pure x := by intro _; rfl)
    (h1 : ∀ s H C cl fp, t1 s H C cl fp = t1 X.s_0 X.H_0 0 [] [] := by exact fun _ _ _ _ _ => rfl) (h2 : ∀ s H C cl fp, tt s H C cl fp = tt X.s_0 X.H_0 0 [] [] := by exact fun _ _ _ _ _ => rfl) (h3 : ∀ s H C cl fp, te s H C cl fp = te X.s_0 X.H_0 0 [] [] := by exact fun _ _ _ _ _ => rfl) :
    DS X L (.Assign [.Name y py] (.ListComp elt [⟨tg, iter, ifs, 0⟩] scope pos) spos) (tAsg (tLc wi (t1 X.s_0 X.H_0 0 [] []) (tt X.s_0 X.H_0 0 [] []) (te X.s_0 X.H_0 0 [] []) (own.map (·.2))) (gName i)) (sSetN i (eComp lk (own.map (·.2)) fi g1 fc fe)) :=
  ds_setCompN hcm hN hi ok (fun s H C cl fp => h1 s H C cl fp ▸ hg s H C cl fp) (fun s H C cl fp => h2 s H C cl fp ▸ ht s H C cl fp) (fun s H C cl fp => h3 s H C cl fp ▸ he s H C cl fp) hy hyl hsw hw hlv hl hs
theorem ds_setCompX {i : Nat} {y : Str} {py spos : Pos} (hcm : X.calm = true) (hN : X.N.Nodup) (hi : DI X lk tg iter wi fi) (ok : BlkOk X.N X.env.scope scope own)
    (hg : ∀ (s : Shared) (H : Hp) (C : Addr) (cl : List (Str × Addr)) (fp : List Addr), DG (X.blk s H scope (compEnvC scope cl C X.env) fp) [] ws tg (t1 s H C cl fp) g1) (ht : ∀ (s : Shared) (H : Hp) (C : Addr) (cl : List (Str × Addr)) (fp : List Addr), DTs (X.blk s H scope (compEnvC scope cl C X.env) fp) ifs (tt s H C cl fp) fc)
    (he : ∀ (s : Shared) (H : Hp) (C : Addr) (cl : List (Str × Addr)) (fp : List Addr), DE (X.blk s H scope (compEnvC scope cl C X.env) fp) elt (te s H C cl fp) fe) (hy : X.N[i]? = some y := by rfl) (hyl : X.env.scope.names.lookup y = some .local := by rfl)
    (hsw : swapsWith (.ListComp elt [⟨tg, iter, ifs, 0⟩] scope pos) (some (.Name y py)) spos.line X.env = pure true := by exact sw_true rfl rfl rfl (by decide +kernel))
    (hw : ∀ i ∈ ws, i ∈ own.map (·.2) := by decide) (hlv : ∀ j, lk = some j → j ∉ own.map (·.2) := by decide) (hl : i ∉ L := by decide) (hs : ∀ x, foldedSetIterable iter X.env x = pure x := by intro _; rfl)
    (h1 : ∀ s H C cl fp, t1 s H C cl fp = t1 X.s_0 X.H_0 0 [] [] := by exact fun _ _ _ _ _ => rfl) (h2 : ∀ s H C cl fp, tt s H C cl fp = tt X.s_0 X.H_0 0 [] [] := by exact fun _ _ _ _ _ => rfl) (h3 : ∀ s H C cl fp, te s H C cl fp = te X.s_0 X.H_0 0 [] [] := by exact fun _ _ _ _ _ => rfl) :
    DS X L (.Assign [.Name y py] (.ListComp elt [⟨tg, iter, ifs, 0⟩] scope pos) spos) (tAsg (tLc wi (t1 X.s_0 X.H_0 0 [] []) (tt X.s_0 X.H_0 0 [] []) (te X.s_0 X.H_0 0 [] []) (own.map (·.2))) (gName i)) (sSet i (eFrz (eComp lk (own.map (·.2)) fi g1 fc fe))) :=
  ds_setComp hcm hN hi ok (fun s H C cl fp => h1 s H C cl fp ▸ hg s H C cl fp) (fun s H C cl fp => h2 s H C cl fp ▸ ht s H C cl fp) (fun s H C cl fp => h3 s H C cl fp ▸ he s H C cl fp) hy hyl hsw hw hlv hl hs
end
end L2.Pd

namespace L2.Pd
open PySem PySem.Spec PyProof.Rows
/-! ## x[::-1] -/
section
variable {prog : Program} {w : World} {A : Around} {E : Value → Shared → Prop} {s : Shared}
theorem adjust_rev (n : Nat) : Builtin.Slice.sliceAdjust none none (-1) (n : Int) = ((n : Int) - 1, -1) := rfl
theorem places_rev (n : Nat) : Builtin.Slice.slicePlaces ((n : Int) - 1) (-1) (-1) = n := by
  unfold Builtin.Slice.slicePlaces
  have h1 : ¬ ((-1 : Int) > 0) := by decide
  rw [if_neg h1]
  have e : (- (-1) : Int) = 1 := by decide
  rw [e, Int.ediv_one]
  split <;> omega
theorem sliceApplied_rev {sl : Addr} {vk : Value} {n : Nat} {Q : Int × Int × Nat → Shared → Prop} (hs : s.heap.IsSliceOf sl .none .none vk) (ps : IsPart vk (some (-1)))
    (h : Q ((n : Int) - 1, -1, n) s) : wpAny (model prog w) A (Builtin.Slice.sliceApplied (.ref sl) (pure (n : Int))) Q E s := by
  obtain ⟨os, hos, hcs, hds⟩ := id hs
  unfold Builtin.Slice.sliceApplied Builtin.Slice.sliceFields
  refine wpAny_bind (wpAny_bind (wpAny_field hos hds (x := .none) rfl (wpAny_bind (wpAny_field hos hds (x := .none) rfl (wpAny_bind (wpAny_field hos hds (x := vk) rfl (wpAny_pure ?_)))))))
  refine wpAny_bind (HT.slicePart_ ps ?_)
  show wpAny _ _ (if ((-1 : Int) == 0) = true then _ else _) _ _ s
  rw [if_neg (by decide)]
  refine wpAny_bind (slicePart_none (wpAny_bind (slicePart_none (wpAny_bind (wpAny_pure ?_)))))
  show wpAny _ _ (match Builtin.Slice.sliceAdjust none none (-1) (n : Int) with | (lo, hi) => pure (lo, (-1 : Int), Builtin.Slice.slicePlaces lo hi (-1))) _ _ s
  rw [adjust_rev]
  show wpAny _ _ (pure ((n : Int) - 1, (-1 : Int), Builtin.Slice.slicePlaces ((n : Int) - 1) (-1) (-1))) _ _ s
  rw [places_rev]
  exact wpAny_pure h
theorem fm_congr {α β : Type} {f g : α → Option β} : ∀ {l : List α}, (∀ x ∈ l, f x = g x) → l.filterMap f = l.filterMap g
  | [], _ => rfl
  | x :: r, h => by rw [List.filterMap_cons, List.filterMap_cons, h x List.mem_cons_self, fm_congr fun y hy => h y (List.mem_cons_of_mem _ hy)]
theorem pick_rev (xs : Array Value) : ((List.range xs.size).filterMap fun (m : Nat) => xs[(((xs.size : Nat) : Int) - 1 + (m : Int) * (-1)).toNat]?).toArray = xs.toList.reverse.toArray := by
  have e : (List.range xs.size).filterMap (fun (m : Nat) => xs[(((xs.size : Nat) : Int) - 1 + (m : Int) * (-1)).toNat]?) = ((List.range xs.size).map fun k => xs.size - 1 - k).filterMap (xs[·]?) := by
    rw [List.filterMap_map]
    refine fm_congr fun m hm => ?_
    have := List.mem_range.mp hm
    show xs[(((xs.size : Nat) : Int) - 1 + (m : Int) * (-1)).toNat]? = xs[xs.size - 1 - m]?
    have : (((xs.size : Nat) : Int) - 1 + (m : Int) * (-1)).toNat = xs.size - 1 - m := by omega
    rw [this]
  rw [e, PySem.W.krv_range, List.filterMap_reverse, PySem.W.krv_all]
theorem getItem_tuple_rev {t sl : Addr} {items : Array Value} {vk : Value} {Q : Value → Shared → Prop} (ht : IsTup s.heap t items) (hs : s.heap.IsSliceOf sl .none .none vk) (ps : IsPart vk (some (-1)))
    (h : Q (.ref s.heap.objs.size) { s with heap := s.heap.push { cls := .type "tuple", data := .seq items.toList.reverse.toArray } })
    (hsz : items.size ≤ sizeLine) : wpAny (model prog w) A (getItem (.ref t) (.ref sl)) Q E s := by
  have htake : sizeOk (.seq items.toList.reverse.toArray) := by
    show items.toList.reverse.toArray.size ≤ sizeLine
    rw [List.size_toArray, List.length_reverse, Array.length_toList]
    exact hsz
  obtain ⟨os, hos, hcs, hds⟩ := id hs
  have hTs : s.TypeIs (.ref sl) "slice" := ⟨os, hos, hcs⟩
  unfold getItem
  try with_reducible refine wpAny_holding ?_
  first | refine wpAny_bind (wpAny_pure ?_) | skip
  refine wpAny_bind (wpAny_sequenceKey ht.typeIs (by decide) ?_)
  refine wpAny_bind (wpAny_callSpecial?_slot (name := Str.ofString "__getitem__") ht.typeIs PyProof.Rows.slot_tuple_getitem
    (wpAny_call_entry PyProof.Rows.slot_tuple_getitem ht.typeIs entry_tuple_getitem ?_ (args_tuple_getitem _ _)))
  show wpAny _ _ (Builtin.Tuple.tupleItemsOf (.ref t) >>= _) _ _ s
  refine wpAny_bind (tupleItemsOf_ ht ?_)
  refine wpAny_bind (wpAny_typeOf hTs ?_)
  rw [if_pos (by decide)]
  refine wpAny_bind (sliceApplied_rev hs ps ?_)
  have hno : ¬ ((((items.size : Int) - 1 == 0 && (-1 : Int) == 1 && items.size == items.size)) = true) := by
    intro q
    rw [Bool.and_eq_true, Bool.and_eq_true] at q
    exact absurd q.1.2 (by decide)
  show wpAny _ _ (if ((((items.size : Int) - 1 == 0 && (-1 : Int) == 1 && items.size == items.size)) = true) then _ else _) _ _ s
  rw [if_neg hno, pick_rev]
  first
    | exact wpAny_bind (m := Builtin.Tuple.tupleExact _) (wpAny_newObj_type (wpAny_pure ⟨_, rfl, wpAny_pure h⟩) htake)
    | exact wpAny_bind (m := Builtin.Tuple.tupleExact _) (wpAny_newObj_type (wpAny_bind (wpAny_pure (wpAny_pure ⟨_, rfl, wpAny_pure h⟩))) htake)
    | exact wpAny_bind (wpAny_bind (m := Builtin.Tuple.tupleExact _) (wpAny_newObj_type (wpAny_pure (wpAny_pure ⟨_, rfl, wpAny_pure h⟩)) htake))
    | exact wpAny_bind (wpAny_bind (m := Builtin.Tuple.tupleExact _) (wpAny_newObj_type (wpAny_pure ⟨_, rfl, wpAny_pure h⟩) htake))
end
def revS (z : Str) : Str := ⟨z.cps.reverse⟩
theorem revS_len (z : Str) : (revS z).length = z.length := by show z.cps.reverse.size = z.cps.size; rw [Array.size_reverse]
theorem indices_rev (n : Nat) : Builtin.Str.strSliceIndices none none (-1) n = (List.range n).map fun k => n - 1 - k := by
  have : Builtin.Str.strSliceIndices none none (-1) n = sliceRange ((n : Int) - 1) (-1) (-1) := rfl
  rw [this, PySem.W.krv_sliceRange]
theorem picked_rev (z : Str) : ((Builtin.Str.strSliceIndices none none (-1) z.length).filterMap (z.cps[·]?)).toArray = z.cps.reverse := by
  rw [indices_rev]
  have h : ((List.range z.cps.size).map fun k => z.cps.size - 1 - k).filterMap (z.cps[·]?) = z.cps.toList.reverse := by
    rw [PySem.W.krv_range, List.filterMap_reverse, PySem.W.krv_all]
  have h2 : ((List.range z.length).map fun k => z.length - 1 - k).filterMap (z.cps[·]?) = z.cps.toList.reverse := h
  rw [h2]
  apply Array.ext'
  simp
def rRev (K : PySem.W.Frag) : V → Hp → VK → Prop := fun x H Q => (∃ a xs, x = .ref a ∧ SqL K H a xs ∧ ∀ p, H p = none → Q (.ref p) (upd H p (.lst xs.reverse))) ∨
  (∃ a xs, x = .ref a ∧ SqT K H a xs ∧ ∀ p, H p = none → Q (.ref p) (upd H p (.tup xs.reverse))) ∨ (∃ z : Str, x = .str z ∧ z.length ≤ sizeLine ∧ Q (.str (revS z)) H)
section
variable {X : Cx} {e : Expr} {te : TE} {fe : FE} {k : Nat} {p1 p2 p3 pos : Pos}
theorem pe_rev (he : PE X e te) : PE X (.Subscript e (.Slice none none (some (.UnaryOp .USub (.Constant (.int 1) k p1) p2)) p3) pos) (tUn (rRev X.K) te) := by
  refine ⟨fun pins s σ H Q I h => ?_⟩
  refine Subscript_ (thn (he.run pins s σ H _ I h) fun v s1 ⟨x, H1, I1, r1, q1⟩ => ?_)
  have hst : PO X (some (.UnaryOp .USub (.Constant (.int 1) k p1) p2)) (tPart (tUn (rU fun i => .int (-i)) (tC (.int 1)))) := po_some (pe_un un_neg pe_int)
  refine wpAny_Slice (thn (po_none.run pins s1 σ H1 (fun o H2 => o = none ∧ H2 = H1) I1 ⟨rfl, rfl⟩) fun vl s2 ⟨l, H2, I2, pl, el, e2⟩ => ?_)
  subst el e2
  refine thn (po_none.run pins s2 σ H2 (fun o H3 => o = none ∧ H3 = H2) I2 ⟨rfl, rfl⟩) fun vu s3 ⟨u, H3, I3, pu, eu, e3⟩ => ?_
  subst eu e3
  refine thn (hst.run pins s3 σ H3 (fun o H4 => o = some (-1) ∧ H4 = H3) I3 ⟨1, rfl, -1, rfl, rfl, rfl⟩) fun vs s4 ⟨o, H4, I4, ps, eo, e4⟩ => ?_
  subst eo e4
  have I5 : Inv X pins σ H4 { s4 with heap := s4.heap.push { cls := .type "slice", data := .fields #[vl, vu, vs] } } := I4.kept (t' := s4.toks) fun b ob q => Heap.get?_push_of_some _ q
  have hso := Heap.IsSliceOf.new s4.heap vl vu vs
  cases pl
  cases pu
  rcases q1 with ⟨a, xs, ex, hx, q⟩ | ⟨a, xs, ex, hx, q⟩ | ⟨z, ex, hz, q⟩
  · subst ex
    cases r1
    obtain ⟨its, r, ht, hz⟩ := I5.list hx
    have hlen := r.length
    show wpAny (model X.prog X.w) X.A (subscriptTail e (.Slice none none (some (.UnaryOp .USub (.Constant (.int 1) k p1) p2)) p3) (.ref a) (.ref s4.heap.objs.size)) (EP X pins σ Q) X.xe { s4 with heap := s4.heap.push { cls := .type "slice", data := .fields #[.none, .none, vs] } }
    refine tail_any (ops := [.ref a, .ref s4.heap.objs.size]) ht.isList.typeIs (PySem.slot_list_getitem.lookup) ?_ (by with_unfolding_all rfl)
    refine wpAny_getItem_list_slice ht.isList hso .none .none ps (by decide) ?_ (by rw [List.size_toArray]; omega)
    rw [PySem.W.krv_pick]
    refine ⟨.ref _, _, I5.laid (t' := s4.toks) (o := .lst xs.reverse) (fun b ob q => Heap.get?_push_of_some _ q) (Nat.le_refl _) ?_, rfl, q _ (I5.hok.fresh (Nat.le_refl _))⟩
    exact ⟨by rw [List.length_reverse]; exact hz, _, 0, r.reverse, Heap.get?_push_size _ rfl⟩
  · subst ex
    cases r1
    obtain ⟨its, r, ht, hz⟩ := I5.tuple hx
    have hlen : its.toArray.size = xs.length := by rw [List.size_toArray]; exact r.length.symm
    show wpAny (model X.prog X.w) X.A (subscriptTail e (.Slice none none (some (.UnaryOp .USub (.Constant (.int 1) k p1) p2)) p3) (.ref a) (.ref s4.heap.objs.size)) (EP X pins σ Q) X.xe { s4 with heap := s4.heap.push { cls := .type "slice", data := .fields #[.none, .none, vs] } }
    refine tail_any (ops := [.ref a, .ref s4.heap.objs.size]) ht.typeIs (PyProof.Rows.slot_tuple_getitem.lookup) ?_ (by with_unfolding_all rfl)
    refine getItem_tuple_rev ht hso ps ?_ (by rw [hlen]; exact hz)
    refine ⟨.ref _, _, I5.laid (t' := s4.toks) (o := .tup xs.reverse) (fun b ob q => Heap.get?_push_of_some _ q) (Nat.le_refl _) ?_, rfl, q _ (I5.hok.fresh (Nat.le_refl _))⟩
    exact ⟨by rw [List.length_reverse]; exact hz, _, r.reverse, IsTup.new _ _⟩
  · subst ex
    obtain ⟨t, rfl⟩ := r1
    obtain ⟨c, rfl, hc⟩ := IsPart.raw ps
    show wpAny (model X.prog X.w) X.A (subscriptTail e (.Slice none none (some (.UnaryOp .USub (.Constant (.int 1) k p1) p2)) p3) (.str z t) (.ref s4.heap.objs.size)) (EP X pins σ Q) X.xe { s4 with heap := s4.heap.push { cls := .type "slice", data := .fields #[.none, .none, partValue c] } }
    refine tail_any (ops := [.str z t, .ref s4.heap.objs.size]) (typeIs_str _ _ _) F.slot_str_getitem.lookup ?_ (by with_unfolding_all rfl)
    obtain ⟨os, hos, hcs, hds⟩ := hso
    refine wpAny_getItem_str_slice (l := none) (u := none) (st := c) ⟨os, hos, hcs, hds⟩ (by rw [hc]; rfl) ?_
    unfold sliceMade slicePicked
    rw [hc]
    show Made.post (if ((-1 : Int) == 1 && (Builtin.Str.strSliceIndices none none (-1) z.length).length == z.length) = true then Made.val (.str z t)
      else Made.str ⟨((Builtin.Str.strSliceIndices none none (-1) z.length).filterMap (z.cps[·]?)).toArray⟩) (EP X pins σ Q) _
    have hno : ¬ (((-1 : Int) == 1 && (Builtin.Str.strSliceIndices none none (-1) z.length).length == z.length) = true) := by
      intro q
      rw [Bool.and_eq_true] at q
      exact absurd q.1 (by decide)
    rw [if_neg hno, picked_rev]
    exact ⟨by show (revS z).length ≤ sizeLine; rw [revS_len]; exact hz, .str _, H4, I5.tok _, ⟨_, rfl⟩, q⟩
def dRev : D → Option D
  | .list ds => some (.list ds.reverse)
  | .tuple ds => some (.tuple ds.reverse)
  | .str z => if z.length ≤ sizeLine then some (.str (revS z)) else none
  | _ => none
theorem v_rev {K : PySem.W.Frag} : Op1 K (rRev K) dRev := by
  intro F H x dx d Q s hx e k
  cases hx with
  | @lst a vs ds q1 r1 =>
    cases e
    refine .inl ⟨a, vs, rfl, s.seq q1, fun n nn => ?_⟩
    have al := Al.laid (o := .lst vs.reverse) s nn
    exact k _ _ _ al (.lst (.inl (.inl upd_same)) (dpAll_mono al.ff r1).reverse)
  | @tup a vs ds q1 r1 =>
    cases e
    refine .inr (.inl ⟨a, vs, rfl, sqT_mono s q1, fun n nn => ?_⟩)
    have al := Al.laid (o := .tup vs.reverse) s nn
    exact k _ _ _ al (.tup (.inl (.inl upd_same)) (dpAll_mono al.ff r1).reverse)
  | str z =>
    have e : (if z.length ≤ sizeLine then some (PyData.str (revS z)) else none) = some d := e
    by_cases hz : z.length ≤ sizeLine
    · rw [if_pos hz] at e; cases e
      exact .inr (.inr ⟨z, rfl, hz, k _ _ _ (Al.refl s) (.str _)⟩)
    · rw [if_neg hz] at e; cases e
  | _ => cases e
theorem de_rev (he : DE X e te fe) : DE X (.Subscript e (.Slice none none (some (.UnaryOp .USub (.Constant (.int 1) k p1) p2)) p3) pos) (tUn (rRev X.K) te) (eUn dRev fe) := ⟨pe_rev he.pe, se_un v_rev he.se⟩
def eRevN (fa : FE) : FN := fun ρ => (fa ρ).bind fun p => match p.1 with
  | .list ds => some (.ol ds.reverse, p.2)
  | _ => none
theorem dn_rev (he : DE X e te fe) : DN X (.Subscript e (.Slice none none (some (.UnaryOp .USub (.Constant (.int 1) k p1) p2)) p3) pos) (tUn (rRev X.K) te) (eRevN fe) := by
  refine ⟨pe_rev he.pe, ?_⟩
  intro B F io σ H ρ d ρ' Q c e k
  obtain ⟨p, e1, e4⟩ := Option.bind_eq_some_iff.mp e
  refine he.se B F io σ H ρ p.1 p.2 _ c e1 fun F1 H1 x g1 c1 d1 => ?_
  cases hp : p.1 with
  | list ds =>
    rw [hp] at e4 d1
    cases e4
    cases d1 with
    | @lst a vs _ q1 r1 =>
      refine .inl ⟨a, vs, rfl, c1.frz.seq q1, fun n nn => ?_⟩
      have al := Al.laidH (o := .lst vs.reverse) c1.frz nn
      exact k _ _ n _ (g1.trans (al.gr c1.base)) (c1.al al) upd_same r1.reverse (c1.frz.free nn) (c1.base.free nn) (c1.fresh_notOwned nn)
  | _ => rw [hp] at e4; cases e4
end
/-! ## ''.join(texts) -/
def strsOf : List D → Option (List Str)
  | [] => some []
  | .str z :: r => (strsOf r).map (z :: ·)
  | _ => none
theorem strsOf_dp {K : PySem.W.Frag} {F : Hp} : ∀ {ds : List D} {vs : List V} {ys : List Str}, DpAll K F vs ds → strsOf ds = some ys → vs = ys.map V.str
  | [], _, _, h, e => by cases h; cases e; rfl
  | .str z :: r, _, _, h, e => by
    obtain ⟨zs, e1, e2⟩ := Option.map_eq_some_iff.mp e
    subst e2
    cases h with
    | cons q t => cases q; rw [strsOf_dp t e1]; rfl
  | .none :: _, _, _, _, e => by cases e
  | .bool _ :: _, _, _, _, e => by cases e
  | .int _ :: _, _, _, _, e => by cases e
  | .list _ :: _, _, _, _, e => by cases e
  | .tuple _ :: _, _, _, _, e => by cases e
  | .dict _ :: _, _, _, _, e => by cases e
def joinS (a : Str) (ys : List Str) : Option D := if (ys.map (·.length)).sum + ys.length * a.length ≤ 16777216 then some (.str (Txt.join a ys)) else none
def dJoin : D → D → Option D
  | .str a, .list ds => (strsOf ds).bind (joinS a)
  | .str a, .tuple ds => (strsOf ds).bind (joinS a)
  | _, _ => none
/-! ## methods of texts -/
def strD : D → Option Str
  | .str z => some z
  | _ => none
theorem strD_eq {d : D} {z : Str} (h : strD d = some z) : d = .str z := by
  cases d <;> first | (cases h; rfl) | cases h
def OpS (K : PySem.W.Frag) (r : V → List V → Hp → VK → Prop) (g : Str → List D → Option D) : Prop := ∀ (F H : Hp) (a : Str) (xs : List V) (ds : List D) (d : D) (Q : VK), Same F H → DpAll K F xs ds → g a ds = some d →
  (∀ F' H' v, Al F H F' H' → Dp K F' v d → Q v H') → r (.str a) xs H Q
def eSM (g : Str → List D → Option D) (fo : FE) (fa : FA) : FE := fun ρ => (fo ρ).bind fun p => (strD p.1).bind fun z => (fa p.2).bind fun q => (g z q.1).map fun d => (d, q.2)
def eSM0 (g : Str → List D → Option D) (fo : FE) : FE := fun ρ => (fo ρ).bind fun p => (strD p.1).bind fun z => (g z []).map fun d => (d, p.2)
section
variable {X : Cx} {o e : Expr} {es : List Expr} {to : TE} {fo : FE} {t : TA} {fa : FA} {name : Str} {apos cpos : Pos} {id : String} {r : V → List V → Hp → VK → Prop} {g : Str → List D → Option D}
theorem de_sm (slot : Slot "str" name id) (hty : typeOf (.builtin id) = pure (.type "method_descriptor")) (hm : MtR X id r) (hg : OpS X.K r g) (ho : DE X o to fo) (ha : DA X (e :: es) t fa)
    (hbase : attributeBase o name X.env (eval o X.env) = eval o X.env := by rfl)
    (hfew : ((backTo cpos (starEach (e :: es) X.env)).all (fun x => !x.1) && (backToKw cpos (keywordEach [] X.env)).all (fun x => x.1.isSome)
      && decide ((e :: es).length + ([] : List Keyword).length + (if ([] : List Keyword).isEmpty then 0 else 1) < 30)) = true := by rfl)
    (hline : (apos.endLine == cpos.line) = true := by rfl) (hs : starEach (e :: es) X.env = (false, eval e X.env) :: starEach es X.env := by rfl) (hplain : (backTo cpos (starEach es X.env)).any (·.1) = false := by rfl) :
    DE X (.Call (.Attribute o name apos) (e :: es) [] cpos) (tBM X.K "str" r to t) (eSM g fo fa) := by
  refine ⟨pe_bm PySem.F.plainAttrs_str slot hty hm ho.pe ha.pe hbase hfew hline hs hplain, ?_⟩
  intro B F io σ H ρ d ρ' Q c h k
  obtain ⟨p, e1, h⟩ := Option.bind_eq_some_iff.mp h
  obtain ⟨z, e2, h⟩ := Option.bind_eq_some_iff.mp h
  obtain ⟨q, e3, h⟩ := Option.bind_eq_some_iff.mp h
  obtain ⟨u, e4, h⟩ := Option.map_eq_some_iff.mp h
  cases h
  refine ho.se B F io σ H ρ p.1 p.2 _ c e1 fun F1 H1 x g1 c1 d1 => ?_
  rw [strD_eq e2] at d1
  cases d1
  refine ⟨rfl, ?_⟩
  refine ha.se B F1 io σ H1 p.2 q.1 q.2 _ c1 e3 fun F2 H2 xs g2 c2 d2 => ?_
  exact hg F2 H2 z xs q.1 d Q c2.frz d2 e4 fun F3 H3 v al d3 => k F3 H3 v ((g1.trans g2).trans (al.gr c2.base)) (c2.al al) d3
theorem de_sm0 (slot : Slot "str" name id) (hty : typeOf (.builtin id) = pure (.type "method_descriptor")) (hm : MtR X id r) (hg : OpS X.K r g) (ho : DE X o to fo)
    (hbase : attributeBase o name X.env (eval o X.env) = eval o X.env := by rfl) (hline : (apos.endLine == cpos.line) = true := by rfl) :
    DE X (.Call (.Attribute o name apos) [] [] cpos) (tBM0 X.K "str" r to) (eSM0 g fo) := by
  refine ⟨pe_bm0 PySem.F.plainAttrs_str slot hty hm ho.pe hbase hline, ?_⟩
  intro B F io σ H ρ d ρ' Q c h k
  obtain ⟨p, e1, h⟩ := Option.bind_eq_some_iff.mp h
  obtain ⟨z, e2, h⟩ := Option.bind_eq_some_iff.mp h
  obtain ⟨u, e4, h⟩ := Option.map_eq_some_iff.mp h
  cases h
  refine ho.se B F io σ H ρ p.1 p.2 _ c e1 fun F1 H1 x g1 c1 d1 => ?_
  rw [strD_eq e2] at d1
  cases d1
  refine ⟨rfl, ?_⟩
  exact hg F1 H1 z [] [] d Q c1.frz .nil e4 fun F3 H3 v al d3 => k F3 H3 v (g1.trans (al.gr c1.base)) (c1.al al) d3
end
def sJoin (a : Str) : List D → Option D
  | [.list ds] => (strsOf ds).bind (joinS a)
  | [.tuple ds] => (strsOf ds).bind (joinS a)
  | _ => none
def sCount (a : Str) : List D → Option D
  | [.str b] => some (.int (Txt.count a b))
  | _ => none
def sLstrip (a : Str) : List D → Option D
  | [.str b] => if a.length ≤ sizeLine then some (.str (Txt.lstripChars a b)) else none
  | _ => none
def sStarts (a : Str) : List D → Option D
  | [.str b] => some (.bool (Txt.startswith a b))
  | _ => none
def sFind (a : Str) : List D → Option D
  | [.str b] => some (.int (Txt.find a b))
  | _ => none
def sIndex (a : Str) : List D → Option D
  | [.str b] => match Builtin.Str.occurrences a b 0 a.length 1 with
    | i :: _ => some (.int (i : Nat))
    | [] => none
  | _ => none
section
variable {K : PySem.W.Frag}
theorem s_join : OpS K (fun x xs H Q => ∃ a p, ∃ ys : List Str, x = .str a ∧ xs = [.ref p] ∧ (SqL K H p (ys.map V.str) ∨ SqT K H p (ys.map V.str)) ∧ (ys.map (·.length)).sum + ys.length * a.length ≤ 16777216 ∧ Q (.str (Txt.join a ys)) H) sJoin := by
  intro F H a xs ds d Q s h e k
  have fin : ∀ {es : List D} {vs : List V}, DpAll K F vs es → (strsOf es).bind (joinS a) = some d → ∃ ys : List Str, vs = ys.map V.str ∧ (ys.map (·.length)).sum + ys.length * a.length ≤ 16777216 ∧ Q (.str (Txt.join a ys)) H := by
    intro es vs h1 e1
    obtain ⟨ys, e2, e3⟩ := Option.bind_eq_some_iff.mp e1
    unfold joinS at e3
    by_cases hz : (ys.map (·.length)).sum + ys.length * a.length ≤ 16777216
    · rw [if_pos hz] at e3; cases e3
      exact ⟨ys, strsOf_dp h1 e2, hz, k _ _ _ (Al.refl s) (.str _)⟩
    · rw [if_neg hz] at e3; cases e3
  unfold sJoin at e
  split at e
  · cases h with
    | cons q r => cases r; cases q with
      | @lst p vs _ q1 r1 =>
        obtain ⟨ys, rfl, h1, h2⟩ := fin r1 e
        exact ⟨a, p, ys, rfl, rfl, .inl (s.seq q1), h1, h2⟩
  · cases h with
    | cons q r => cases r; cases q with
      | @tup p vs _ q1 r1 =>
        obtain ⟨ys, rfl, h1, h2⟩ := fin r1 e
        exact ⟨a, p, ys, rfl, rfl, .inr (sqT_mono s q1), h1, h2⟩
  · cases e
theorem s_count : OpS K (fun x xs H Q => ∃ a b, x = .str a ∧ xs = [.str b] ∧ Q (.int (Txt.count a b)) H) sCount := by
  intro F H a xs ds d Q s h e k
  unfold sCount at e
  split at e
  · cases e
    cases h with
    | cons q r => cases r; cases q; exact ⟨a, _, rfl, rfl, k _ _ _ (Al.refl s) (.int _)⟩
  · cases e
theorem s_find : OpS K (fun x xs H Q => ∃ a b, x = .str a ∧ xs = [.str b] ∧ Q (.int (Txt.find a b)) H) sFind := by
  intro F H a xs ds d Q s h e k
  unfold sFind at e
  split at e
  · cases e
    cases h with
    | cons q r => cases r; cases q; exact ⟨a, _, rfl, rfl, k _ _ _ (Al.refl s) (.int _)⟩
  · cases e
theorem s_starts : OpS K (fun x xs H Q => ∃ a b, x = .str a ∧ xs = [.str b] ∧ Q (.bl (Txt.startswith a b)) H) sStarts := by
  intro F H a xs ds d Q s h e k
  unfold sStarts at e
  split at e
  · cases e
    cases h with
    | cons q r => cases r; cases q; exact ⟨a, _, rfl, rfl, k _ _ _ (Al.refl s) (.bl _)⟩
  · cases e
end
/-! ## list(range(..)), tuple(range(..)) -/
abbrev FR2 := En → Option ((Int × Int) × En)
def SRg (K : PySem.W.Frag) (t : St → Hp → (Int → Int → Hp → Prop) → Prop) (f : FR2) : Prop := ∀ (B F : Hp) (io : List (Nat × Addr)) (σ : St) (H : Hp) (ρ : En) (p : Int × Int) (ρ' : En) (Q : Int → Int → Hp → Prop), Con K B F io σ H ρ → f ρ = some (p, ρ') →
  (∀ F' H', Gr B F F' → Con K B F' io σ H' ρ' → Q p.1 p.2 H') → t σ H Q
structure DRg (X : Cx) (e : Expr) (t : St → Hp → (Int → Int → Hp → Prop) → Prop) (f : FR2) : Prop where
  pe : PRg X e t
  se : SRg X.K t f
def gR1 (fa : FE) : FR2 := fun ρ => (fa ρ).bind fun p => (intD p.1).map fun n => ((0, n), p.2)
def gR2 (fa fb : FE) : FR2 := fun ρ => (fa ρ).bind fun p => (fb p.2).bind fun q => (intD p.1).bind fun m => (intD q.1).map fun n => ((m, n), q.2)
def rgOk (a b : Int) : Bool := decide (-(2 ^ 62) ≤ a ∧ a < 2 ^ 62 ∧ -(2 ^ 62) ≤ b ∧ b < 2 ^ 62 ∧ (b - a).toNat ≤ 2 ^ 24)
def eLRg (f : FR2) : FN := fun ρ => (f ρ).bind fun p => if rgOk p.1.1 p.1.2 = true then some (.ol (rngD p.1.1 (p.1.2 - p.1.1).toNat), p.2) else none
def eTRg (f : FR2) : FE := fun ρ => (f ρ).bind fun p => if rgOk p.1.1 p.1.2 = true then some (.tuple (rngD p.1.1 (p.1.2 - p.1.1).toNat), p.2) else none
theorem dpAll_rg {K : PySem.W.Frag} {F : Hp} (a b : Int) : DpAll K F (rgV a b) (rngD a (b - a).toNat) := by
  unfold rgV rngD
  generalize List.range (b - a).toNat = l
  induction l with
  | nil => exact .nil
  | cons x r ih => exact .cons (.int _) ih
section
variable {X : Cx} {a b e : Expr} {ta tb : TE} {fa fb : FE} {p pos : Pos} {te : St → Hp → (Int → Int → Hp → Prop) → Prop} {f : FR2}
theorem drg_1 (ha : DE X a ta fa) (hm : X.mg "range" = none) (hg : Gl X "range" := by rfl) (na : starEach [a] X.env = (false, eval a X.env) :: starEach [] X.env := by rfl) : DRg X (.Call (.Name "range" p) [a] [] pos) (tRg1 ta) (gR1 fa) := by
  refine ⟨prg_1 hg hm ha.pe na, ?_⟩
  intro B F io σ H ρ d ρ' Q c h k
  obtain ⟨u, e1, h⟩ := Option.bind_eq_some_iff.mp h
  obtain ⟨z, e2, h⟩ := Option.map_eq_some_iff.mp h
  cases h
  refine ha.se B F io σ H ρ u.1 u.2 _ c e1 fun F1 H1 x g1 c1 d1 => ?_
  rw [intD_eq e2] at d1
  cases d1
  exact ⟨z, rfl, k F1 H1 g1 c1⟩
theorem drg_2 (ha : DE X a ta fa) (hb : DE X b tb fb) (hm : X.mg "range" = none) (hg : Gl X "range" := by rfl) (na : starEach [a, b] X.env = (false, eval a X.env) :: starEach [b] X.env := by rfl) (nb : starEach [b] X.env = (false, eval b X.env) :: starEach [] X.env := by rfl) (hp : (backTo pos (starEach [b] X.env)).any (·.1) = false := by rfl) : DRg X (.Call (.Name "range" p) [a, b] [] pos) (tRg2 ta tb) (gR2 fa fb) := by
  refine ⟨prg_2 hg hm ha.pe hb.pe na nb hp, ?_⟩
  intro B F io σ H ρ d ρ' Q c h k
  obtain ⟨u, e1, h⟩ := Option.bind_eq_some_iff.mp h
  obtain ⟨v, e3, h⟩ := Option.bind_eq_some_iff.mp h
  obtain ⟨z, e2, h⟩ := Option.bind_eq_some_iff.mp h
  obtain ⟨y, e4, h⟩ := Option.map_eq_some_iff.mp h
  cases h
  refine ha.se B F io σ H ρ u.1 u.2 _ c e1 fun F1 H1 x g1 c1 d1 => ?_
  refine hb.se B F1 io σ H1 u.2 v.1 v.2 _ c1 e3 fun F2 H2 x2 g2 c2 d2 => ?_
  rw [intD_eq e2] at d1
  rw [intD_eq e4] at d2
  cases d1
  cases d2
  exact ⟨z, y, rfl, rfl, k F2 H2 (g1.trans g2) c2⟩
theorem dn_listRg (hc : X.calm = true) (he : DRg X e te f) (hm : X.mg "list" = none) (hg : Gl X "list" := by rfl) (na : starEach [e] X.env = (false, eval e X.env) :: starEach [] X.env := by rfl) : DN X (.Call (.Name "list" p) [e] [] pos) (tLstRg te) (eLRg f) := by
  refine ⟨pe_listRg hc hg hm he.pe na, ?_⟩
  intro B F io σ H ρ d ρ' Q c h k
  obtain ⟨u, e1, h⟩ := Option.bind_eq_some_iff.mp h
  by_cases hz : rgOk u.1.1 u.1.2 = true
  · rw [if_pos hz] at h
    cases h
    refine he.se B F io σ H ρ u.1 u.2 _ c e1 fun F1 H1 g1 c1 => ⟨by unfold rgOk at hz; rw [decide_eq_true_eq] at hz; exact hz, fun n nn => ?_⟩
    have al := Al.laidH (o := .lst (rgV u.1.1 u.1.2)) c1.frz nn
    exact k _ _ n _ (g1.trans (al.gr c1.base)) (c1.al al) upd_same (dpAll_rg _ _) (c1.frz.free nn) (c1.base.free nn) (c1.fresh_notOwned nn)
  · rw [if_neg hz] at h; cases h
theorem de_tupRg (hc : X.calm = true) (he : DRg X e te f) (hm : X.mg "tuple" = none) (hg : Gl X "tuple" := by rfl) (na : starEach [e] X.env = (false, eval e X.env) :: starEach [] X.env := by rfl) : DE X (.Call (.Name "tuple" p) [e] [] pos) (tTupRg te) (eTRg f) := by
  refine ⟨pe_tupRg hc hg hm he.pe na, ?_⟩
  intro B F io σ H ρ d ρ' Q c h k
  obtain ⟨u, e1, h⟩ := Option.bind_eq_some_iff.mp h
  by_cases hz : rgOk u.1.1 u.1.2 = true
  · rw [if_pos hz] at h
    cases h
    refine he.se B F io σ H ρ u.1 u.2 _ c e1 fun F1 H1 g1 c1 => ⟨by unfold rgOk at hz; rw [decide_eq_true_eq] at hz; exact hz, fun n nn => ?_⟩
    have al := Al.laid (o := .tup (rgV u.1.1 u.1.2)) c1.frz nn
    exact k _ _ _ (g1.trans (al.gr c1.base)) (c1.al al) (.tup (.inl (.inl upd_same)) (dpAll_rg _ _))
  · rw [if_neg hz] at h; cases h
end
/-! ## {k1: v1, k2: v2}.get(e, f), all of them texts -/
theorem upd_twice {H : Hp} {p : Addr} {o o' : HO} : upd (upd H p o) p o' = upd H p o' := by
  funext a
  by_cases h : a = p
  · subst h; rw [upd_same, upd_same]
  · rw [upd_ne h, upd_ne h, upd_ne h]
def eGet2 (k1 v1 k2 v2 : Str) (fe ff : FE) : FE := fun ρ => (fe ρ).bind fun p => (ff p.2).bind fun q => (strD p.1).map fun z => (if z = k1 then .str v1 else if z = k2 then .str v2 else q.1, q.2)
section
variable {X : Cx} {e f : Expr} {te tf : TE} {fe ff : FE} {a1 a2 a3 a4 : Nat} {p1 p2 p3 p4 dpos apos cpos : Pos} {k1 v1 k2 v2 : Str}
theorem de_get2 (hu : X.A.units + 1 < cLine) (he : DE X e te fe) (hf : DE X f tf ff) (hk : k1 ≠ k2 := by decide)
    (m1 : attributeBase (.Dict [some (.Constant (.str k1) a1 p1), some (.Constant (.str k2) a2 p2)] [.Constant (.str v1) a3 p3, .Constant (.str v2) a4 p4] dpos) "get" X.env (eval (.Dict [some (.Constant (.str k1) a1 p1), some (.Constant (.str k2) a2 p2)] [.Constant (.str v1) a3 p3, .Constant (.str v2) a4 p4] dpos) X.env) = eval (.Dict [some (.Constant (.str k1) a1 p1), some (.Constant (.str k2) a2 p2)] [.Constant (.str v1) a3 p3, .Constant (.str v2) a4 p4] dpos) X.env := by rfl)
    (m2 : ((backTo cpos (starEach [e, f] X.env)).all (fun x => !x.1) && (backToKw cpos (keywordEach [] X.env)).all (fun x => x.1.isSome)
      && decide (([e, f] : List Expr).length + ([] : List Keyword).length + (if ([] : List Keyword).isEmpty then 0 else 1) < 30)) = true := by rfl)
    (m3 : (apos.endLine == cpos.line) = true := by rfl) (m4 : backTo cpos (starEach [e, f] X.env) = [(false, eval e X.env), (false, eval f X.env)] := by rfl) :
    DE X (.Call (.Attribute (.Dict [some (.Constant (.str k1) a1 p1), some (.Constant (.str k2) a2 p2)] [.Constant (.str v1) a3 p3, .Constant (.str v2) a4 p4] dpos) "get" apos) [e, f] [] cpos)
      (tDGet2 (tDisp [(tC (.str k1), tC (.str v1)), (tC (.str k2), tC (.str v2))]) te tf) (eGet2 k1 v1 k2 v2 fe ff) := by
  refine ⟨pe_dget2 hu (pe_disp (pps_cons pe_str pe_str (pps_cons pe_str pe_str pps_nil)) rfl rfl (by simp) (by simp)) he.pe hf.pe ⟨m1, m2, m3, m4⟩, ?_⟩
  intro B F io σ H ρ d ρ' Q c h k
  obtain ⟨p, e1, h⟩ := Option.bind_eq_some_iff.mp h
  obtain ⟨q, e2, h⟩ := Option.bind_eq_some_iff.mp h
  obtain ⟨z, e3, h⟩ := Option.map_eq_some_iff.mp h
  cases h
  intro Dd nD
  refine ⟨upd_same, [(.inr k1, .str v1), (.inr k2, .str v2)], rfl, by simp, Dd, rfl, ?_⟩
  rw [upd_twice]
  have bD : B Dd = none := c.base.free nD
  have fD : F Dd = none := c.frz.free nD
  have c0 := c.toBase (o := .dK (mergeK [] [(.inr k1, .str v1), (.inr k2, .str v2)])) nD
  refine ⟨.inl ⟨_, .inl upd_same⟩, ?_⟩
  refine he.se _ F io σ _ ρ p.1 p.2 _ c0 e1 fun F1 H1 x g1 c1 d1 => ?_
  refine hf.se _ F1 io σ H1 p.2 q.1 q.2 _ c1 e2 fun F2 H2 y g2 c2 d2 => ?_
  rw [strD_eq e3] at d1
  cases d1
  have hd := c2.base Dd _ upd_same
  have gg := g1.trans g2
  refine ⟨_, DGet.k (k := .inr z) hd, ?_⟩
  have hm : mergeK [] [((.inr k1 : Key), V.str v1), (.inr k2, .str v2)] = [(.inr k1, .str v1), (.inr k2, .str v2)] := by
    have hk' : (Sum.inr k1 : Key) ≠ .inr k2 := fun e => hk (Sum.inr.inj e)
    simp [mergeK, putK, hk']
  refine k F2 H2 _ (gg.unBase bD) (c2.unBase bD) ?_
  rw [hm]
  by_cases h1 : z = k1
  · subst h1
    rw [if_pos rfl, valV_pos rfl]
    exact .str _
  · rw [if_neg h1, valV_neg (fun e => h1 (Sum.inr.inj e).symm)]
    by_cases h2 : z = k2
    · subst h2
      rw [if_pos rfl, valV_pos rfl]
      exact .str _
    · rw [if_neg h2, valV_neg (fun e => h2 (Sum.inr.inj e).symm), valV_nil]
      exact d2
end
/-! ## a name whose value is not looked at -/
noncomputable def hid {α : Type} (a : α) : α := Classical.choose (⟨a, rfl⟩ : ∃ b, b = a)
theorem hid_eq {α : Type} (a : α) : hid a = a := Classical.choose_spec (⟨a, rfl⟩ : ∃ b, b = a)
theorem dn_hid {X : Cx} {e : Expr} {t : TE} {k f : FN} (h : k = f) (d : DN X e t f) : DN X e t k := h ▸ d
theorem ds_hidN {X : Cx} {L : List Nat} {st : Stmt} {t : TS} {i : Nat} {k f : FN} (h : k = f) (d : DS X L st t (sSetN i f)) : DS X L st t (sSetN i k) := h ▸ d
theorem ds_hidF {X : Cx} {L : List Nat} {st : Stmt} {t : TS} {i : Nat} {k f : FN} (h : k = f) (d : DS X L st t (sSet i (eFrz f))) : DS X L st t (sSet i (eFrz k)) := h ▸ d
theorem ds_hid {X : Cx} {L : List Nat} {st : Stmt} {t : TS} {k f : FS} (h : k = f) (d : DS X L st t f) : DS X L st t k := h ▸ d
/-! ## texts and tuples, many times -/
def rMulS : R2 := fun x y H Q => ∃ (z : Str) (n : Int), x = .str z ∧ y = .int n ∧ MulOk z n ∧ Q (.str (Txt.mul z n)) H
theorem op_mulS {X : Cx} : OpR X (binaryOp .Mult) rMulS := by
  intro pins s σ H x y v u Q I rx ry h
  obtain ⟨z, n, rfl, rfl, hok, q⟩ := h
  obtain ⟨t, rfl⟩ := rx
  obtain ⟨t', rfl⟩ := ry
  exact SB.mul hok fun t2 k => ⟨.str _, H, I.tok _, ⟨_, rfl⟩, q⟩
theorem mulOk_str {z : Str} {n : Int} (h0 : -(2 ^ 62) ≤ n) (h1 : n < 2 ^ 62) (h : z.length * n.toNat ≤ 16777216) : MulOk z n := by
  refine ⟨by rw [decide_eq_false (by omega), decide_eq_false (by omega)]; rfl, fun hn _ => ?_, fun hn _ => ?_⟩
  · intro hgt
    have hz : (z.length : Int) ≤ 16777216 := by
      have : z.length * 1 ≤ z.length * n.toNat := Nat.mul_le_mul_left _ (by omega)
      omega
    have hm : (z.length : Int) * n ≤ 16777216 := by
      have e : ((z.length * n.toNat : Nat) : Int) = (z.length : Int) * n := by push_cast; rw [Int.toNat_of_nonneg (by omega)]
      omega
    have : (z.length : Int) ≤ (2 ^ 63 - 1) / n := Int.le_ediv_of_mul_le (by omega) (by omega)
    omega
  · unfold Builtin.Str.tooLong sizeLine
    exact decide_eq_false (by omega)
section
variable {prog : Program} {w : World} {A : Around} {E : Value → Shared → Prop} {s : Shared}
theorem tuple_mul0 (l : Addr) (items : Array Value) (n : Nat) (dd : Option Addr) (sl : Array (Option Value)) (x : Int) (u : Tok) (c0 : (decide (x < -(2 ^ 63)) || decide (x ≥ 2 ^ 63)) = false) (c1 : (items.isEmpty || x == 1) = false) (c2 : (decide (x ≤ 0) || items.isEmpty) = true) :
    Meets (Builtin.«tuple.__mul__» ⟨[.ref l, .int x u], []⟩) (fun _ R s => s.heap.get? l = some { cls := .type "tuple", dict := dd, data := .seq items n, slots := sl } ∧
      R (.ok (.ret (Value.ref s.heap.objs.size))) { s with heap := s.heap.push { cls := Value.type "tuple", data := Data.seq #[] }, toks := s.toks }) :=
  .of_wp fun prog w A R s h => by
    obtain ⟨hp, g, d, tk, os⟩ := s
    obtain ⟨hl, h⟩ := h
    have f1 := AutoSeq1.idx_int
    wp_walk using wpAny_loadPart' hl
    repeat (first
      | (refine wpAny_ite_false (decide_eq_false (by rw [c0]; exact Bool.false_ne_true)) ?_; wp_walk using wpAny_loadPart' hl)
      | (refine wpAny_ite_false (decide_eq_false (by rw [c1]; exact Bool.false_ne_true)) ?_; wp_walk using wpAny_loadPart' hl)
      | (refine wpAny_ite_true (decide_eq_true c2) ?_; wp_walk using wpAny_loadPart' hl))
    exact ⟨_, rfl, h⟩
theorem tuple_mul1 (l : Addr) (items : Array Value) (n : Nat) (dd : Option Addr) (sl : Array (Option Value)) (x : Int) (u : Tok) (c0 : (decide (x < -(2 ^ 63)) || decide (x ≥ 2 ^ 63)) = false) (c1 : (items.isEmpty || x == 1) = true) :
    Meets (Builtin.«tuple.__mul__» ⟨[.ref l, .int x u], []⟩) (fun _ R s => s.heap.get? l = some { cls := .type "tuple", dict := dd, data := .seq items n, slots := sl } ∧
      R (.ok (.ret (Value.ref l))) s) :=
  .of_wp fun prog w A R s h => by
    obtain ⟨hp, g, d, tk, os⟩ := s
    obtain ⟨hl, h⟩ := h
    have f1 := AutoSeq1.idx_int
    wp_walk using wpAny_loadPart' hl
    repeat (first
      | (refine wpAny_ite_false (decide_eq_false (by rw [c0]; exact Bool.false_ne_true)) ?_; wp_walk using wpAny_loadPart' hl)
      | (refine wpAny_ite_true (decide_eq_true c1) ?_; wp_walk using wpAny_loadPart' hl))
    exact ⟨_, rfl, h⟩
end
theorem size_rep' (its : List Value) (m : Nat) : (List.foldl (fun x1 x2 => x1 ++ x2) #[] (List.replicate m its.toArray)) = (List.replicate m its).flatten.toArray := by
  have := foldl_rep its m []
  rw [List.nil_append] at this
  exact this
def rRepA (K : PySem.W.Frag) : R2 := fun x y H Q => ∃ (l : Addr) (k : Int) (xs : List V), x = .ref l ∧ y = .int k ∧ SqT K H l xs ∧ -(2 ^ 62) ≤ k ∧ k < 2 ^ 62 ∧ xs.length * k.toNat ≤ 16777216 ∧ (xs = [] ∨ k = 1 → Q (.ref l) H) ∧
  (¬ (xs = [] ∨ k = 1) → ∀ p, H p = none → Q (.ref p) (upd H p (.tup (List.replicate k.toNat xs).flatten)))
theorem op_repA {X : Cx} : OpR X (binaryOp .Mult) (rRepA X.K) := by
  intro pins s σ H x y v u Q I rx ry h
  obtain ⟨l, k, xs, rfl, rfl, hT, h1, h2, hz, q1, q2⟩ := h
  cases rx
  obtain ⟨t, rfl⟩ := ry
  obtain ⟨its, r, ⟨⟨cls, dd, data, sl⟩, ho, hc, n, hd⟩, hs⟩ := I.tuple hT
  simp only at hc hd
  subst hc hd
  have hle : its.length = xs.length := r.length.symm
  have c0 : (decide (k < -(2 ^ 63)) || decide (k ≥ 2 ^ 63)) = false := by
    rw [decide_eq_false (by omega), decide_eq_false (by omega)] <;> rfl
  have hne : its = [] ↔ xs = [] := by
    constructor
    · intro e; rw [e] at hle; exact List.eq_nil_of_length_eq_zero hle.symm
    · intro e; rw [e] at hle; exact List.eq_nil_of_length_eq_zero hle
  by_cases hb : xs = [] ∨ k = 1
  · have c1 : (its.toArray.isEmpty || k == 1) = true := by
      rcases hb with e | e
      · rw [hne.mpr e]; rfl
      · subst e; simp
    exact wpAny_binaryOp_repeat_ref (T := "tuple") (U := "int") (by decide) ⟨_, ho, rfl⟩ (fun s' => typeIs_int s' k t) noFill_tuple_mul F.fills_int_mul F.slot_int_rmul repeat_tuple F.slot_int_index.lookup
      (call_meets F.slot_int_rmul (typeIs_int s k t) F.entry_int_rmul (F.args_int_rmul_2 _ _) (int_rmul_tuple k t l its.toArray n dd sl)
        ⟨ho, rfl, ⟨_, ho, rfl⟩, call_meets F.slot_tuple_mul ⟨_, ho, rfl⟩ F.entry_tuple_mul (F.args_tuple_mul_2 _ _) (tuple_mul1 l its.toArray n dd sl k t c0 c1) ⟨ho, ⟨.ref l, H, I, rfl, q1 hb⟩⟩⟩)
  · have hb1 : xs ≠ [] := fun e => hb (.inl e)
    have hb2 : k ≠ 1 := fun e => hb (.inr e)
    have hi : its.toArray.isEmpty = false := by
      cases its with
      | nil => exact absurd (hne.mp rfl) hb1
      | cons a b => rfl
    have c1 : (its.toArray.isEmpty || k == 1) = false := by
      rw [hi, Bool.false_or]
      exact beq_eq_false_iff_ne.mpr hb2
    have flen : (List.replicate k.toNat its).flatten.length ≤ sizeLine := by
      rw [PyProof.Rows.lm_len_rep_flat, hle, sizeLine_eq, Nat.mul_comm]
      exact hz
    have q3 := q2 hb
    by_cases h0 : k ≤ 0
    · have c2 : (decide (k ≤ 0) || its.toArray.isEmpty) = true := by rw [decide_eq_true h0]; rfl
      have e0 : (List.replicate k.toNat xs).flatten = [] := by rw [show k.toNat = 0 by omega]; rfl
      rw [e0] at q3
      refine wpAny_binaryOp_repeat_ref (T := "tuple") (U := "int") (by decide) ⟨_, ho, rfl⟩ (fun s' => typeIs_int s' k t) noFill_tuple_mul F.fills_int_mul F.slot_int_rmul repeat_tuple F.slot_int_index.lookup
        (call_meets F.slot_int_rmul (typeIs_int s k t) F.entry_int_rmul (F.args_int_rmul_2 _ _) (int_rmul_tuple k t l its.toArray n dd sl)
          ⟨ho, rfl, ⟨_, ho, rfl⟩, call_meets F.slot_tuple_mul ⟨_, ho, rfl⟩ F.entry_tuple_mul (F.args_tuple_mul_2 _ _) (tuple_mul0 l its.toArray n dd sl k t c0 c1 c2) ⟨ho, ?_⟩⟩)
      refine ⟨.ref s.heap.objs.size, _, I.laid (t' := s.toks) (o := .tup []) (fun b ob q => Heap.get?_push_of_some _ q) (Nat.le_refl _) ?_, rfl, q3 _ (I.hok.fresh (Nat.le_refl _))⟩
      exact ⟨Nat.zero_le _, [], .nil, IsTup.new _ _⟩
    · have hm : ((its.toArray.size : Nat) : Int) * k ≤ 16777216 := by
        rw [List.size_toArray, hle]
        have e : ((xs.length * k.toNat : Nat) : Int) = (xs.length : Int) * k := by push_cast; rw [Int.toNat_of_nonneg (by omega)]
        omega
      have c2 : (decide (k ≤ 0) || its.toArray.isEmpty) = false := by
        rw [hi, Bool.or_false]
        exact decide_eq_false (by omega)
      have c4 : Builtin.Tuple.tupleTooMany (((its.toArray.size : Nat) : Int) * k) = false := by
        unfold Builtin.Tuple.tupleTooMany
        rw [sizeLine_eq]
        exact decide_eq_false (by omega)
      refine wpAny_binaryOp_repeat_ref (T := "tuple") (U := "int") (by decide) ⟨_, ho, rfl⟩ (fun s' => typeIs_int s' k t) noFill_tuple_mul F.fills_int_mul F.slot_int_rmul repeat_tuple F.slot_int_index.lookup
        (call_meets F.slot_int_rmul (typeIs_int s k t) F.entry_int_rmul (F.args_int_rmul_2 _ _) (int_rmul_tuple k t l its.toArray n dd sl)
          ⟨ho, rfl, ⟨_, ho, rfl⟩, call_meets F.slot_tuple_mul ⟨_, ho, rfl⟩ F.entry_tuple_mul (F.args_tuple_mul_2 _ _) (tuple_mulW l its.toArray n dd sl k t c0 c1 c2 (by omega) c4 (by rw [size_rep', List.size_toArray]; exact flen)) ⟨ho, ?_⟩⟩)
      rw [size_rep']
      refine ⟨.ref s.heap.objs.size, _, I.laid (t' := s.toks) (o := .tup (List.replicate k.toNat xs).flatten) (fun b ob q => Heap.get?_push_of_some _ q) (Nat.le_refl _) ?_, rfl, q3 _ (I.hok.fresh (Nat.le_refl _))⟩
      exact ⟨by rw [PyProof.Rows.lm_len_rep_flat, sizeLine_eq, Nat.mul_comm]; exact hz, _, r.rep k.toNat, IsTup.new _ _⟩
def repOk (n : Nat) (k : Int) : Bool := decide (-(2 ^ 62) ≤ k ∧ k < 2 ^ 62 ∧ n * k.toNat ≤ 16777216)
theorem repOk_eq {n : Nat} {k : Int} (h : repOk n k = true) : -(2 ^ 62) ≤ k ∧ k < 2 ^ 62 ∧ n * k.toNat ≤ 16777216 := by unfold repOk at h; rw [decide_eq_true_eq] at h; exact h
def dMulA : D → D → Option D
  | .int a, .int b => if mulOk a b = true then some (.int (a * b)) else none
  | .str z, .int k => if repOk z.length k = true then some (.str (Txt.mul z k)) else none
  | .tuple ds, .int k => if repOk ds.length k = true then some (.tuple (List.replicate k.toNat ds).flatten) else none
  | _, _ => none
abbrev rMulA (K : PySem.W.Frag) : R2 := fun x y H Q => rI IntMulOk (fun i j => .int (i * j)) x y H Q ∨ (rMulS x y H Q ∨ rRepA K x y H Q)
theorem op_mulA {X : Cx} : OpR X (binaryOp .Mult) (rMulA X.K) := op_mulD.or (op_mulS.or op_repA)
theorem dpAll_rep {K : PySem.W.Frag} {F : Hp} {vs : List V} {ds : List D} (h : DpAll K F vs ds) : ∀ n : Nat, DpAll K F (List.replicate n vs).flatten (List.replicate n ds).flatten
  | 0 => .nil
  | n + 1 => by rw [List.replicate_succ, List.replicate_succ, List.flatten_cons, List.flatten_cons]; exact h.append (dpAll_rep h n)
theorem v_mulA {K : PySem.W.Frag} : Op2 K (rMulA K) dMulA := by
  intro F H x y dx dy d Q s hx hy e k
  match dx, dy, hx, hy, e with
  | .int a, .int b, hx, hy, e =>
    cases hx; cases hy
    have e : (if mulOk a b = true then some (PyData.int (a * b)) else none) = some d := e
    by_cases hz : mulOk a b = true
    · rw [if_pos hz] at e; cases e
      exact .inl ⟨a, b, rfl, rfl, mulOk_ok hz, k F H _ (Al.refl s) (.int _)⟩
    · rw [if_neg hz] at e; cases e
  | .str z, .int b, hx, hy, e =>
    cases hx; cases hy
    have e : (if repOk z.length b = true then some (PyData.str (Txt.mul z b)) else none) = some d := e
    by_cases hz : repOk z.length b = true
    · rw [if_pos hz] at e; cases e
      obtain ⟨h1, h2, h3⟩ := repOk_eq hz
      exact .inr (.inl ⟨z, b, rfl, rfl, mulOk_str h1 h2 h3, k F H _ (Al.refl s) (.str _)⟩)
    · rw [if_neg hz] at e; cases e
  | .tuple ds, .int b, hx, hy, e =>
    cases hy
    have e : (if repOk ds.length b = true then some (PyData.tuple (List.replicate b.toNat ds).flatten) else none) = some d := e
    by_cases hz : repOk ds.length b = true
    · rw [if_pos hz] at e; cases e
      obtain ⟨h1, h2, h3⟩ := repOk_eq hz
      cases hx with
      | @tup a vs _ q1 r1 =>
        refine .inr (.inr ⟨a, b, vs, rfl, rfl, sqT_mono s q1, h1, h2, by rw [r1.length]; exact h3, fun hb => ?_, fun hb p hp => ?_⟩)
        · have e2 : (List.replicate b.toNat ds).flatten = ds := by
            rcases hb with hb | hb
            · subst hb; cases r1; generalize b.toNat = n; induction n with
              | zero => rfl
              | succ n ih => rw [List.replicate_succ, List.flatten_cons, ih]; rfl
            · subst hb; show (List.replicate 1 ds).flatten = ds; rw [List.replicate_succ, List.flatten_cons]; exact List.append_nil _
          exact k F H (.ref a) (Al.refl s) (by rw [e2]; exact .tup q1 r1)
        · have al := Al.laid (o := .tup (List.replicate b.toNat vs).flatten) s hp
          exact k _ _ _ al (.tup (.inl (.inl upd_same)) (dpAll_rep (dpAll_mono al.ff r1) _))
    · rw [if_neg hz] at e; cases e
/-! ### list.index of ints -/
def ixOf (k : Int) : List Int → Option Nat
  | [] => none
  | n :: r => if n = k then some 0 else (ixOf k r).map (· + 1)
theorem ixOf_ok {k : Int} : ∀ {ns : List Int} {j : Nat}, ixOf k ns = some j → ns[j]? = some k ∧ ∀ m, m < j → ns[m]? ≠ some k
  | [], j, h => by cases h
  | n :: r, j, h => by
    unfold ixOf at h
    by_cases e : n = k
    · rw [if_pos e] at h
      cases h
      exact ⟨by rw [← e]; rfl, fun m hm => absurd hm (Nat.not_lt_zero _)⟩
    · rw [if_neg e] at h
      obtain ⟨i, h1, rfl⟩ := Option.map_eq_some_iff.mp h
      obtain ⟨h2, h3⟩ := ixOf_ok h1
      refine ⟨by rw [List.getElem?_cons_succ]; exact h2, fun m hm => ?_⟩
      cases m with
      | zero => intro z; rw [List.getElem?_cons_zero] at z; exact e (Option.some.inj z)
      | succ m => rw [List.getElem?_cons_succ]; exact h3 m (by omega)
def lIndex : List D → List D → Option (D × List D)
  | ds, [.int k] => (intsD ds).bind fun ns => (ixOf k ns).map fun j => (.int (j : Nat), ds)
  | _, _ => none
theorem l_index {K : PySem.W.Frag} : OpL K (rIndex K) lIndex := by
  intro F H a vs xs ds es z Q h d1 d2 e k
  match es, d2, e with
  | [.int x], d2, e =>
    obtain ⟨v, rfl, dv⟩ := one_of d2
    cases dv
    obtain ⟨ns, e1, e⟩ := Option.bind_eq_some_iff.mp e
    obtain ⟨j, e2, e⟩ := Option.map_eq_some_iff.mp e
    cases e
    have := intsD_eq e1; subst this
    have := dp_ints_inv d1; subst this
    obtain ⟨h1, h2⟩ := ixOf_ok e2
    have hu : upd H a (.lst (ns.map V.int)) = H := by
      funext b
      unfold upd
      by_cases z : b = a
      · rw [if_pos z, z, h]
      · rw [if_neg z]
    have hq := k (.int (j : Nat)) (ns.map V.int) (.int _) d1
    rw [hu] at hq
    refine ⟨a, ns.map V.int, .int x, j, .int x, rfl, rfl, .inl (.inl h), rfl, ?_, by rw [List.getElem?_map, h1]; rfl, ?_, fun m z' hm hz => ?_, hq⟩
    · rw [List.all_map, List.all_eq_true]; exact fun _ _ => rfl
    · show (x == x) = true
      exact beq_self_eq_true _
    · rw [List.getElem?_map] at hz
      obtain ⟨n, h3, rfl⟩ := Option.map_eq_some_iff.mp hz
      show (n == x) = false
      rw [beq_eq_false_iff_ne]
      intro q
      exact h2 m hm (by rw [h3, q])
/-- l.index(x), l plain data -/
def eIdx (fo : FE) (fa : FA) : FE := fun ρ => (fo ρ).bind fun p => match p.1 with
  | .list ds => (fa p.2).bind fun q => (lIndex ds q.1).map fun z => (z.1, q.2)
  | _ => none
section
variable {X : Cx} {o e : Expr} {es : List Expr} {to : TE} {fo : FE} {t : TA} {fa : FA} {name : Str} {apos cpos : Pos} {id : String}
theorem de_lix (slot : Slot "list" name id) (hty : typeOf (.builtin id) = pure (.type "method_descriptor")) (hm : MtR X id (rIndex X.K)) (ho : DE X o to fo) (ha : DA X (e :: es) t fa)
    (hbase : attributeBase o name X.env (eval o X.env) = eval o X.env := by rfl)
    (hfew : ((backTo cpos (starEach (e :: es) X.env)).all (fun x => !x.1) && (backToKw cpos (keywordEach [] X.env)).all (fun x => x.1.isSome)
      && decide ((e :: es).length + ([] : List Keyword).length + (if ([] : List Keyword).isEmpty then 0 else 1) < 30)) = true := by rfl)
    (hline : (apos.endLine == cpos.line) = true := by rfl) (hs : starEach (e :: es) X.env = (false, eval e X.env) :: starEach es X.env := by rfl) (hplain : (backTo cpos (starEach es X.env)).any (·.1) = false := by rfl) :
    DE X (.Call (.Attribute o name apos) (e :: es) [] cpos) (tBM X.K "list" (rIndex X.K) to t) (eIdx fo fa) := by
  refine ⟨pe_bm PySem.F.plainAttrs_list slot hty hm ho.pe ha.pe hbase hfew hline hs hplain, ?_⟩
  intro B F io σ H ρ d ρ' Q c h k
  obtain ⟨p, e1, h⟩ := Option.bind_eq_some_iff.mp h
  refine ho.se B F io σ H ρ p.1 p.2 _ c e1 fun F1 H1 x g1 c1 d1 => ?_
  obtain ⟨dp, ρp⟩ := p
  cases dp with
  | list ds =>
    obtain ⟨q, e3, h⟩ := Option.bind_eq_some_iff.mp h
    obtain ⟨z, e4, h⟩ := Option.map_eq_some_iff.mp h
    cases h
    cases d1 with
    | @lst a vs _ q1 r1 =>
      refine ⟨.inl ⟨rfl, vs, c1.frz.seq q1⟩, ?_⟩
      refine ha.se B F1 io σ H1 _ q.1 q.2 _ c1 e3 fun F2 H2 xs g2 c2 d2 => ?_
      obtain ⟨es2, ρq⟩ := q
      match es2, d2, e4 with
      | [.int x], d2, e4 =>
        obtain ⟨v, rfl, dv⟩ := one_of d2
        cases dv
        obtain ⟨ns, e5, e4⟩ := Option.bind_eq_some_iff.mp e4
        obtain ⟨j, e6, e4⟩ := Option.map_eq_some_iff.mp e4
        cases e4
        have := intsD_eq e5; subst this
        have := dp_ints_inv r1; subst this
        obtain ⟨h1, h2⟩ := ixOf_ok e6
        refine ⟨a, ns.map V.int, .int x, j, .int x, rfl, rfl, c2.frz.seq (g2.sub.seq q1), rfl, ?_, by rw [List.getElem?_map, h1]; rfl, ?_, fun m z' hm hz => ?_, k F2 H2 _ (g1.trans g2) c2 (.int _)⟩
        · rw [List.all_map, List.all_eq_true]; exact fun _ _ => rfl
        · show (x == x) = true
          exact beq_self_eq_true _
        · rw [List.getElem?_map] at hz
          obtain ⟨n, h3, rfl⟩ := Option.map_eq_some_iff.mp hz
          show (n == x) = false
          rw [beq_eq_false_iff_ne]
          intro q
          exact h2 m hm (by rw [h3, q])
  | _ => cases h
end
/-- a def's plain function by its body -/
class FnIs (m : FnS) (n : outParam Nat) (ios : outParam (List Nat)) (s : outParam FS) : Prop where
  eq : m = fnSem n ios s
end L2.Pd

namespace L2.Pd
open PySem PySem.Spec PyProof.Rows
/-! ## Comprehensions of two clauses -/
def stp2 (c : FT) (lk1 : Option Nat) (vs1 : List Nat) (it1 : FA) (g1 : FG) (c1 : FT) (e : FE) (acc : List D) (ρ : En) : Option (List D × En) := (c ρ).bind fun p => if p.1 = true then (it1 p.2).bind fun q => compG lk1 q.1 vs1 g1 (stp c1 e) q.1 acc q.2 else some (acc, p.2)
def eComp2 (lk : Option Nat) (vs : List Nat) (it : FA) (g : FG) (c : FT) (lk1 : Option Nat) (vs1 : List Nat) (it1 : FA) (g1 : FG) (c1 : FT) (e : FE) : FN := fun ρ => (it ρ).bind fun p => (compG lk p.1 vs g (stp2 c lk1 vs1 it1 g1 c1 e) p.1 [] p.2).map fun q => (.ol q.1, putB vs p.2 (killL vs q.2))
section
variable {X : Cx} {tg iter tg1 iter1 elt : Expr} {ifs ifs1 : List Expr} {scope : Scope} {own : List (Str × Nat)} {pos : Pos} {wi wi1 : TI} {fi fi1 : FA} {lk lk1 : Option Nat} {ws vs ws1 vs1 : List Nat} {t1 t2 : TG} {g1 g2 : FG} {tt tt1 : TT} {fc fc1 : FT} {te : TE} {fe : FE}
theorem sn_comp2 {K : PySem.W.Frag} (hi : SI K lk wi fi) (hg : SG K [] ws t1 g1) (hc : ST K tt fc) (hi1 : SI K lk1 wi1 fi1) (hg1 : SG K [] ws1 t2 g2) (hc1 : ST K tt1 fc1) (he : SE K te fe) (hw : ∀ i ∈ ws, i ∈ vs) (hw1 : ∀ i ∈ ws1, i ∈ vs1) (hvv : ∀ i ∈ vs1, i ∈ vs) (hlv : ∀ j, lk = some j → j ∉ vs) (hlv1 : ∀ j, lk1 = some j → j ∉ vs1) :
    SN K (tLc2 wi t1 tt wi1 t2 tt1 te vs vs1) (eComp2 lk vs fi g1 fc lk1 vs1 fi1 g2 fc1 fe) := by
  intro B F io σ H ρ cl ρ' Q c e k
  obtain ⟨⟨xs, ρ0⟩, e1, e⟩ := Option.bind_eq_some_iff.mp e
  obtain ⟨⟨out, ρz⟩, e2, e3⟩ := Option.map_eq_some_iff.mp e
  cases e3
  refine hi B F io σ H ρ xs ρ0 _ c e1 fun F0 H0 J C g0 c0 wk hcl hlk => ?_
  intro Dd nD
  have bD : B Dd = none := c0.base.free nD
  have fD0 : F0 Dd = none := c0.frz.free nD
  have hσ : ∀ i, i ∉ vs → (wipe σ vs)[i]? = σ[i]? := wipe_get σ vs
  refine ⟨fun i m H => m = xs.length - i ∧ i ≤ xs.length ∧ ∃ F2 ρ2 acc accV, Gr B F0 F2 ∧ Con K (upd B Dd (.lst accV)) F2 [] (wipe σ vs) H (killL vs ρ2) ∧ F2 Dd = none ∧ DpAll K F2 accV acc ∧ compG lk xs vs g1 (stp2 fc lk1 vs1 fi1 g2 fc1 fe) (xs.drop i) acc ρ2 = some (out, ρz),
    ⟨xs.length, by simp, Nat.zero_le _, F0, ρ0, [], [], Gr.refl _ _, (c0.toBase nD).move vs (wipe_length σ vs) hσ (fun p hp => absurd hp (List.not_mem_nil)), fD0, .nil, e2⟩, ?_⟩
  rintro i m H2 ⟨rfl, hi2, F2, ρ2, acc, accV, gq2, c2, fD, dA, e4⟩
  by_cases hlt : i < xs.length
  · rw [List.drop_eq_getElem_cons hlt] at e4
    unfold compG at e4
    by_cases hlo : lockOk lk xs (killL vs ρ2) = true
    · rw [if_pos hlo] at e4
      obtain ⟨ρ3, e5, e4⟩ := Option.bind_eq_some_iff.mp e4
      obtain ⟨⟨acc4, ρ4⟩, e6, e7⟩ := Option.bind_eq_some_iff.mp e4
      have cc := hcl _ F2 [] (wipe σ vs) H2 (killL vs ρ2) gq2.sub c2 hlo (fun j hj => hσ j (hlv j hj))
      refine .inr ⟨wk.go i F2 H2 cc hlt, fun H' => ∃ m', m' < xs.length - i ∧ (m' = xs.length - (i + 1) ∧ i + 1 ≤ xs.length ∧ ∃ F2 ρ2 acc accV, Gr B F0 F2 ∧ Con K (upd B Dd (.lst accV)) F2 [] (wipe σ vs) H' (killL vs ρ2) ∧ F2 Dd = none ∧ DpAll K F2 accV acc ∧ compG lk xs vs g1 (stp2 fc lk1 vs1 fi1 g2 fc1 fe) (xs.drop (i + 1)) acc ρ2 = some (out, ρz)), fun H' h => h, fun x H' y => ?_⟩
      obtain ⟨e8, d, e9, dd⟩ := wk.yld i F2 H2 x H' cc hlt y
      subst e8
      rw [List.getElem?_eq_getElem hlt] at e9
      cases e9
      refine hg _ F2 [] (wipe σ vs) H' (killL vs ρ2) x xs[i] ρ3 _ rfl c2 dd e5 fun F3 σ3 H3 g3 c3 off => ⟨?_, ?_⟩
      · rw [wipe_off off hw, wipe_wipe]
      obtain ⟨p, e10, e11⟩ := Option.bind_eq_some_iff.mp e6
      refine hc _ F3 [] σ3 H3 ρ3 p.1 p.2 _ c3 e10 fun F4 H4 g4 c4 => ?_
      have back : ∀ {F5 : Hp} {H5 : Hp} {ρ5 : En} {B5 : Hp} {σ5 : St}, σ5.length = σ3.length → (∀ j, j ∉ vs → σ5[j]? = σ3[j]?) → Con K B5 F5 [] σ5 H5 ρ5 → Con K B5 F5 [] (wipe σ vs) H5 (killL vs ρ5) := fun {F5 H5 ρ5 B5 σ5} hl5 h5 c5 =>
        c5.move vs (by rw [hl5, off.1]) (fun j hj => by rw [h5 j hj]; exact ((off.2 j fun z => hj (hw j z))).symm) (fun p hp => absurd hp (List.not_mem_nil))
      by_cases hp : p.1 = true
      · rw [if_pos hp] at e11 ⊢
        obtain ⟨⟨xs1, ρ5⟩, e12, e13⟩ := Option.bind_eq_some_iff.mp e11
        refine hi1 _ F4 [] σ3 H4 p.2 xs1 ρ5 _ c4 e12 fun F5 H5 J1 C1 g5 c5 wk1 hcl1 hlk1 => ?_
        have hσ1 : ∀ i, i ∉ vs1 → (wipe σ3 vs1)[i]? = σ3[i]? := wipe_get σ3 vs1
        have gg5 := (g3.trans g4).trans g5
        refine ⟨fun j m H => m = xs1.length - j ∧ j ≤ xs1.length ∧ ∃ F6 ρ6 acc6 accV6, Gr B F0 F6 ∧ Same F5 F6 ∧ Con K (upd B Dd (.lst accV6)) F6 [] (wipe σ3 vs1) H (killL vs1 ρ6) ∧ F6 Dd = none ∧ DpAll K F6 accV6 acc6 ∧ compG lk1 xs1 vs1 g2 (stp fc1 fe) (xs1.drop j) acc6 ρ6 = some (acc4, ρ4),
          ⟨xs1.length, by simp, Nat.zero_le _, F5, ρ5, acc, accV, gq2.trans (gg5.unBase bD), Same.refl _, c5.move vs1 (wipe_length σ3 vs1) hσ1 (fun p hp => absurd hp (List.not_mem_nil)), gg5.at fD, dpAll_mono gg5.sub dA, e13⟩, ?_⟩
        rintro j m H6 ⟨rfl, hj2, F6, ρ6, acc6, accV6, g6, s56, c6, fD6, dA6, e14⟩
        by_cases hlt1 : j < xs1.length
        · rw [List.drop_eq_getElem_cons hlt1] at e14
          unfold compG at e14
          by_cases hlo1 : lockOk lk1 xs1 (killL vs1 ρ6) = true
          · rw [if_pos hlo1] at e14
            obtain ⟨ρ7, e15, e14⟩ := Option.bind_eq_some_iff.mp e14
            obtain ⟨⟨acc8, ρ8⟩, e16, e17⟩ := Option.bind_eq_some_iff.mp e14
            have cc1 := hcl1 _ F6 [] (wipe σ3 vs1) H6 (killL vs1 ρ6) s56 c6 hlo1 (fun j hj => hσ1 j (hlv1 j hj))
            refine .inr ⟨wk1.go j F6 H6 cc1 hlt1, fun H' => ∃ m', m' < xs1.length - j ∧ (m' = xs1.length - (j + 1) ∧ j + 1 ≤ xs1.length ∧ ∃ F6 ρ6 acc6 accV6, Gr B F0 F6 ∧ Same F5 F6 ∧ Con K (upd B Dd (.lst accV6)) F6 [] (wipe σ3 vs1) H' (killL vs1 ρ6) ∧ F6 Dd = none ∧ DpAll K F6 accV6 acc6 ∧ compG lk1 xs1 vs1 g2 (stp fc1 fe) (xs1.drop (j + 1)) acc6 ρ6 = some (acc4, ρ4)), fun H' h => h, fun x1 H7 y1 => ?_⟩
            obtain ⟨e18, d1, e19, dd1⟩ := wk1.yld j F6 H6 x1 H7 cc1 hlt1 y1
            subst e18
            rw [List.getElem?_eq_getElem hlt1] at e19
            cases e19
            refine hg1 _ F6 [] (wipe σ3 vs1) H7 (killL vs1 ρ6) x1 xs1[j] ρ7 _ rfl c6 dd1 e15 fun F7 σ7 H8 g7 c7 off1 => ⟨?_, ?_⟩
            · rw [wipe_off off1 hw1, wipe_wipe]
            have back1 : ∀ {F9 : Hp} {H9 : Hp} {ρ9 : En} {B9 : Hp}, Con K B9 F9 [] σ7 H9 ρ9 → Con K B9 F9 [] (wipe σ3 vs1) H9 (killL vs1 ρ9) := fun {F9 H9 ρ9 B9} c9 =>
              c9.move vs1 (by rw [off1.1]) (fun j hj => ((off1.2 j fun z => hj (hw1 j z))).symm) (fun p hp => absurd hp (List.not_mem_nil))
            obtain ⟨p1, e20, e21⟩ := Option.bind_eq_some_iff.mp e16
            refine hc1 _ F7 [] σ7 H8 ρ7 p1.1 p1.2 _ c7 e20 fun F9 H9 g9 c9 => ?_
            by_cases hp1 : p1.1 = true
            · rw [if_pos hp1] at e21 ⊢
              obtain ⟨q, e22, e23⟩ := Option.bind_eq_some_iff.mp e21
              by_cases hz : acc6.length < sizeLine
              · rw [if_pos hz] at e23
                cases e23
                refine he _ F9 [] σ7 H9 p1.2 q.1 q.2 _ c9 e22 fun F10 H10 v g10 c10 d10 => ?_
                have gg := (g7.trans g9).trans g10
                have fD10 := gg.at fD6
                have dA10 := dpAll_mono gg.sub dA6
                refine ⟨accV6, c10.base _ _ upd_same, by rw [dA6.length]; exact hz, xs1.length - (j + 1), by omega, rfl, hlt1, F10, q.2, acc6 ++ [q.1], accV6 ++ [v], g6.trans (gg.unBase bD), s56.trans gg.sub, back1 (c10.reBase fD10), fD10, dA10.append (.one d10), e17⟩
              · rw [if_neg hz] at e23; cases e23
            · rw [if_neg hp1] at e21 ⊢
              cases e21
              have gg := g7.trans g9
              exact ⟨xs1.length - (j + 1), by omega, rfl, hlt1, F9, p1.2, acc6, accV6, g6.trans (gg.unBase bD), s56.trans gg.sub, back1 c9, gg.at fD6, dpAll_mono gg.sub dA6, e17⟩
          · rw [if_neg hlo1] at e14; cases e14
        · have hj3 : j = xs1.length := by omega
          subst hj3
          rw [List.drop_length] at e14
          unfold compG at e14
          by_cases hlo1 : lockOk lk1 xs1 (killL vs1 ρ6) = true
          · rw [if_pos hlo1] at e14
            cases e14
            have cc1 := hcl1 _ F6 [] (wipe σ3 vs1) H6 (killL vs1 ρ6) s56 c6 hlo1 (fun j hj => hσ1 j (hlv1 j hj))
            refine .inl ⟨wk1.stop _ F6 H6 cc1 (Nat.le_refl _), ?_⟩
            exact ⟨xs.length - (i + 1), by omega, rfl, hlt, F6, killL vs1 ρ6, acc4, accV6, g6, back (wipe_length σ3 vs1) (fun j hj => hσ1 j fun z => hj (hvv j z)) c6, fD6, dA6, e7⟩
          · rw [if_neg hlo1] at e14; cases e14
      · rw [if_neg hp] at e11 ⊢
        cases e11
        have gg := g3.trans g4
        exact ⟨xs.length - (i + 1), by omega, rfl, hlt, F4, p.2, acc, accV, gq2.trans (gg.unBase bD), back rfl (fun _ _ => rfl) c4, gg.at fD, dpAll_mono gg.sub dA, e7⟩
    · rw [if_neg hlo] at e4; cases e4
  · have hi3 : i = xs.length := by omega
    subst hi3
    rw [List.drop_length] at e4
    unfold compG at e4
    by_cases hlo : lockOk lk xs (killL vs ρ2) = true
    · rw [if_pos hlo] at e4
      cases e4
      have cc := hcl _ F2 [] (wipe σ vs) H2 (killL vs ρ2) gq2.sub c2 hlo (fun j hj => hσ j (hlv j hj))
      refine .inl ⟨wk.stop _ F2 H2 cc (Nat.le_refl _), ?_⟩
      have cf : Con K (upd B Dd (.lst accV)) F2 io σ H2 (killL vs (killL vs ρ2)) := c2.move vs (wipe_length σ vs).symm (fun j hj => (hσ j hj).symm) c.io
      exact k F2 H2 Dd (.lst accV) (g0.trans gq2) (Con.putB c0 gq2.sub vs (cf.unBase bD)) (c2.base _ _ upd_same) dA fD bD (notOwned_putB vs cf.notOwned_base)
    · rw [if_neg hlo] at e4; cases e4
end
section
variable {X : Cx} {elt tg iter tg1 iter1 : Expr} {ifs ifs1 : List Expr} {scope : Scope} {own : List (Str × Nat)} {pos : Pos} {wi : TI} {lk lk1 : Option Nat} {fi fi1 : FA} {ws ws1 vs1 : List Nat} {g1 g2 : FG} {fc fc1 : FT} {fe : FE} {L : List Nat}
  {t1 t2 : Shared → Hp → Addr → List (Str × Addr) → List Addr → TG} {wi1 : Shared → Hp → Addr → List (Str × Addr) → List Addr → TI} {tt tt1 : Shared → Hp → Addr → List (Str × Addr) → List Addr → TT} {te : Shared → Hp → Addr → List (Str × Addr) → List Addr → TE}
theorem dn_comp2X (vs1 : List Nat) (hcm : X.calm = true) (hN : X.N.Nodup) (hi : DI X lk tg iter wi fi) (ok : BlkOk X.N X.env.scope scope own)
    (hg : ∀ (s : Shared) (H : Hp) (C : Addr) (cl : List (Str × Addr)) (fp : List Addr), DG (X.blk s H scope (compEnvC scope cl C X.env) fp) [] ws tg (t1 s H C cl fp) g1) (ht : ∀ (s : Shared) (H : Hp) (C : Addr) (cl : List (Str × Addr)) (fp : List Addr), DTs (X.blk s H scope (compEnvC scope cl C X.env) fp) ifs (tt s H C cl fp) fc)
    (hi1 : ∀ (s : Shared) (H : Hp) (C : Addr) (cl : List (Str × Addr)) (fp : List Addr), DI (X.blk s H scope (compEnvC scope cl C X.env) fp) lk1 tg1 iter1 (wi1 s H C cl fp) fi1)
    (hg1 : ∀ (s : Shared) (H : Hp) (C : Addr) (cl : List (Str × Addr)) (fp : List Addr), DG (X.blk s H scope (compEnvC scope cl C X.env) fp) [] ws1 tg1 (t2 s H C cl fp) g2) (ht1 : ∀ (s : Shared) (H : Hp) (C : Addr) (cl : List (Str × Addr)) (fp : List Addr), DTs (X.blk s H scope (compEnvC scope cl C X.env) fp) ifs1 (tt1 s H C cl fp) fc1)
    (he : ∀ (s : Shared) (H : Hp) (C : Addr) (cl : List (Str × Addr)) (fp : List Addr), DE (X.blk s H scope (compEnvC scope cl C X.env) fp) elt (te s H C cl fp) fe) (hw : ∀ i ∈ ws, i ∈ own.map (·.2) := by decide) (hw1 : ∀ i ∈ ws1, i ∈ vs1 := by decide) (hvv : ∀ i ∈ vs1, i ∈ own.map (·.2) := by decide) (hlv : ∀ j, lk = some j → j ∉ own.map (·.2) := by decide) (hlv1 : ∀ j, lk1 = some j → j ∉ vs1 := by decide)
    (hs : ∀ x, foldedSetIterable iter X.env x = pure x := by intro _; rfl) (hs1 : ∀ env x, foldedSetIterable iter1 env x = pure x := by intro _ _; rfl)
    (h1 : ∀ s H C cl fp, t1 s H C cl fp = t1 X.s_0 X.H_0 0 [] [] := by exact fun _ _ _ _ _ => rfl) (h2 : ∀ s H C cl fp, tt s H C cl fp = tt X.s_0 X.H_0 0 [] [] := by exact fun _ _ _ _ _ => rfl) (h3 : ∀ s H C cl fp, te s H C cl fp = te X.s_0 X.H_0 0 [] [] := by exact fun _ _ _ _ _ => rfl)
    (h4 : ∀ s H C cl fp, wi1 s H C cl fp = wi1 X.s_0 X.H_0 0 [] [] := by exact fun _ _ _ _ _ => rfl) (h5 : ∀ s H C cl fp, t2 s H C cl fp = t2 X.s_0 X.H_0 0 [] [] := by exact fun _ _ _ _ _ => rfl) (h6 : ∀ s H C cl fp, tt1 s H C cl fp = tt1 X.s_0 X.H_0 0 [] [] := by exact fun _ _ _ _ _ => rfl) :
    DN X (.ListComp elt [⟨tg, iter, ifs, 0⟩, ⟨tg1, iter1, ifs1, 0⟩] scope pos) (tLc2 wi (t1 X.s_0 X.H_0 0 [] []) (tt X.s_0 X.H_0 0 [] []) (wi1 X.s_0 X.H_0 0 [] []) (t2 X.s_0 X.H_0 0 [] []) (tt1 X.s_0 X.H_0 0 [] []) (te X.s_0 X.H_0 0 [] []) (own.map (·.2)) vs1) (eComp2 lk (own.map (·.2)) fi g1 fc lk1 vs1 fi1 g2 fc1 fe) :=
  ⟨pe_lc2 hcm hN hi.pe ok hvv (fun s H C cl fp => h1 s H C cl fp ▸ (hg s H C cl fp).pe) (fun s H C cl fp => h2 s H C cl fp ▸ (ht s H C cl fp).pe) (fun s H C cl fp => h4 s H C cl fp ▸ (hi1 s H C cl fp).pe) (fun s H C cl fp => h5 s H C cl fp ▸ (hg1 s H C cl fp).pe) (fun s H C cl fp => h6 s H C cl fp ▸ (ht1 s H C cl fp).pe) (fun s H C cl fp => h3 s H C cl fp ▸ (he s H C cl fp).pe) hs hs1,
   sn_comp2 hi.se (hg X.s_0 X.H_0 0 [] []).se (ht X.s_0 X.H_0 0 [] []).se (hi1 X.s_0 X.H_0 0 [] []).se (hg1 X.s_0 X.H_0 0 [] []).se (ht1 X.s_0 X.H_0 0 [] []).se (he X.s_0 X.H_0 0 [] []).se hw hw1 hvv hlv hlv1⟩
theorem ds_setComp2NX {i : Nat} {y : Str} {py spos : Pos} (vs1 : List Nat) (hcm : X.calm = true) (hN : X.N.Nodup) (hi : DI X lk tg iter wi fi) (ok : BlkOk X.N X.env.scope scope own)
    (hg : ∀ (s : Shared) (H : Hp) (C : Addr) (cl : List (Str × Addr)) (fp : List Addr), DG (X.blk s H scope (compEnvC scope cl C X.env) fp) [] ws tg (t1 s H C cl fp) g1) (ht : ∀ (s : Shared) (H : Hp) (C : Addr) (cl : List (Str × Addr)) (fp : List Addr), DTs (X.blk s H scope (compEnvC scope cl C X.env) fp) ifs (tt s H C cl fp) fc)
    (hi1 : ∀ (s : Shared) (H : Hp) (C : Addr) (cl : List (Str × Addr)) (fp : List Addr), DI (X.blk s H scope (compEnvC scope cl C X.env) fp) lk1 tg1 iter1 (wi1 s H C cl fp) fi1)
    (hg1 : ∀ (s : Shared) (H : Hp) (C : Addr) (cl : List (Str × Addr)) (fp : List Addr), DG (X.blk s H scope (compEnvC scope cl C X.env) fp) [] ws1 tg1 (t2 s H C cl fp) g2) (ht1 : ∀ (s : Shared) (H : Hp) (C : Addr) (cl : List (Str × Addr)) (fp : List Addr), DTs (X.blk s H scope (compEnvC scope cl C X.env) fp) ifs1 (tt1 s H C cl fp) fc1)
    (he : ∀ (s : Shared) (H : Hp) (C : Addr) (cl : List (Str × Addr)) (fp : List Addr), DE (X.blk s H scope (compEnvC scope cl C X.env) fp) elt (te s H C cl fp) fe) (hy : X.N[i]? = some y := by rfl) (hyl : X.env.scope.names.lookup y = some .local := by rfl)
    (hsw : swapsWith (.ListComp elt [⟨tg, iter, ifs, 0⟩, ⟨tg1, iter1, ifs1, 0⟩] scope pos) (some (.Name y py)) spos.line X.env = pure true := by exact sw_true rfl rfl rfl (by decide +kernel))
    (hw : ∀ i ∈ ws, i ∈ own.map (·.2) := by decide) (hw1 : ∀ i ∈ ws1, i ∈ vs1 := by decide) (hvv : ∀ i ∈ vs1, i ∈ own.map (·.2) := by decide) (hlv : ∀ j, lk = some j → j ∉ own.map (·.2) := by decide) (hlv1 : ∀ j, lk1 = some j → j ∉ vs1 := by decide) (hl : i ∉ L := by decide)
    (hs : ∀ x, foldedSetIterable iter X.env x = pure x := by intro _; rfl) (hs1 : ∀ env x, foldedSetIterable iter1 env x = pure x := by intro _ _; rfl)
    (h1 : ∀ s H C cl fp, t1 s H C cl fp = t1 X.s_0 X.H_0 0 [] [] := by exact fun _ _ _ _ _ => rfl) (h2 : ∀ s H C cl fp, tt s H C cl fp = tt X.s_0 X.H_0 0 [] [] := by exact fun _ _ _ _ _ => rfl) (h3 : ∀ s H C cl fp, te s H C cl fp = te X.s_0 X.H_0 0 [] [] := by exact fun _ _ _ _ _ => rfl)
    (h4 : ∀ s H C cl fp, wi1 s H C cl fp = wi1 X.s_0 X.H_0 0 [] [] := by exact fun _ _ _ _ _ => rfl) (h5 : ∀ s H C cl fp, t2 s H C cl fp = t2 X.s_0 X.H_0 0 [] [] := by exact fun _ _ _ _ _ => rfl) (h6 : ∀ s H C cl fp, tt1 s H C cl fp = tt1 X.s_0 X.H_0 0 [] [] := by exact fun _ _ _ _ _ => rfl) :
    DS X L (.Assign [.Name y py] (.ListComp elt [⟨tg, iter, ifs, 0⟩, ⟨tg1, iter1, ifs1, 0⟩] scope pos) spos) (tAsg (tLc2 wi (t1 X.s_0 X.H_0 0 [] []) (tt X.s_0 X.H_0 0 [] []) (wi1 X.s_0 X.H_0 0 [] []) (t2 X.s_0 X.H_0 0 [] []) (tt1 X.s_0 X.H_0 0 [] []) (te X.s_0 X.H_0 0 [] []) (own.map (·.2)) vs1) (gName i)) (sSetN i (eComp2 lk (own.map (·.2)) fi g1 fc lk1 vs1 fi1 g2 fc1 fe)) :=
  ⟨ps_setLc2 hcm hN hy hyl hsw hi.pe ok hvv (fun s H C cl fp => h1 s H C cl fp ▸ (hg s H C cl fp).pe) (fun s H C cl fp => h2 s H C cl fp ▸ (ht s H C cl fp).pe) (fun s H C cl fp => h4 s H C cl fp ▸ (hi1 s H C cl fp).pe) (fun s H C cl fp => h5 s H C cl fp ▸ (hg1 s H C cl fp).pe) (fun s H C cl fp => h6 s H C cl fp ▸ (ht1 s H C cl fp).pe) (fun s H C cl fp => h3 s H C cl fp ▸ (he s H C cl fp).pe) hs hs1,
   ss_setN hl (sn_comp2 hi.se (hg X.s_0 X.H_0 0 [] []).se (ht X.s_0 X.H_0 0 [] []).se (hi1 X.s_0 X.H_0 0 [] []).se (hg1 X.s_0 X.H_0 0 [] []).se (ht1 X.s_0 X.H_0 0 [] []).se (he X.s_0 X.H_0 0 [] []).se hw hw1 hvv hlv hlv1)⟩
theorem ds_setComp2X {i : Nat} {y : Str} {py spos : Pos} (vs1 : List Nat) (hcm : X.calm = true) (hN : X.N.Nodup) (hi : DI X lk tg iter wi fi) (ok : BlkOk X.N X.env.scope scope own)
    (hg : ∀ (s : Shared) (H : Hp) (C : Addr) (cl : List (Str × Addr)) (fp : List Addr), DG (X.blk s H scope (compEnvC scope cl C X.env) fp) [] ws tg (t1 s H C cl fp) g1) (ht : ∀ (s : Shared) (H : Hp) (C : Addr) (cl : List (Str × Addr)) (fp : List Addr), DTs (X.blk s H scope (compEnvC scope cl C X.env) fp) ifs (tt s H C cl fp) fc)
    (hi1 : ∀ (s : Shared) (H : Hp) (C : Addr) (cl : List (Str × Addr)) (fp : List Addr), DI (X.blk s H scope (compEnvC scope cl C X.env) fp) lk1 tg1 iter1 (wi1 s H C cl fp) fi1)
    (hg1 : ∀ (s : Shared) (H : Hp) (C : Addr) (cl : List (Str × Addr)) (fp : List Addr), DG (X.blk s H scope (compEnvC scope cl C X.env) fp) [] ws1 tg1 (t2 s H C cl fp) g2) (ht1 : ∀ (s : Shared) (H : Hp) (C : Addr) (cl : List (Str × Addr)) (fp : List Addr), DTs (X.blk s H scope (compEnvC scope cl C X.env) fp) ifs1 (tt1 s H C cl fp) fc1)
    (he : ∀ (s : Shared) (H : Hp) (C : Addr) (cl : List (Str × Addr)) (fp : List Addr), DE (X.blk s H scope (compEnvC scope cl C X.env) fp) elt (te s H C cl fp) fe) (hy : X.N[i]? = some y := by rfl) (hyl : X.env.scope.names.lookup y = some .local := by rfl)
    (hsw : swapsWith (.ListComp elt [⟨tg, iter, ifs, 0⟩, ⟨tg1, iter1, ifs1, 0⟩] scope pos) (some (.Name y py)) spos.line X.env = pure true := by exact sw_true rfl rfl rfl (by decide +kernel))
    (hw : ∀ i ∈ ws, i ∈ own.map (·.2) := by decide) (hw1 : ∀ i ∈ ws1, i ∈ vs1 := by decide) (hvv : ∀ i ∈ vs1, i ∈ own.map (·.2) := by decide) (hlv : ∀ j, lk = some j → j ∉ own.map (·.2) := by decide) (hlv1 : ∀ j, lk1 = some j → j ∉ vs1 := by decide) (hl : i ∉ L := by decide)
    (hs : ∀ x, foldedSetIterable iter X.env x = pure x := by intro _; rfl) (hs1 : ∀ env x, foldedSetIterable iter1 env x = pure x := by intro _ _; rfl)
    (h1 : ∀ s H C cl fp, t1 s H C cl fp = t1 X.s_0 X.H_0 0 [] [] := by exact fun _ _ _ _ _ => rfl) (h2 : ∀ s H C cl fp, tt s H C cl fp = tt X.s_0 X.H_0 0 [] [] := by exact fun _ _ _ _ _ => rfl) (h3 : ∀ s H C cl fp, te s H C cl fp = te X.s_0 X.H_0 0 [] [] := by exact fun _ _ _ _ _ => rfl)
    (h4 : ∀ s H C cl fp, wi1 s H C cl fp = wi1 X.s_0 X.H_0 0 [] [] := by exact fun _ _ _ _ _ => rfl) (h5 : ∀ s H C cl fp, t2 s H C cl fp = t2 X.s_0 X.H_0 0 [] [] := by exact fun _ _ _ _ _ => rfl) (h6 : ∀ s H C cl fp, tt1 s H C cl fp = tt1 X.s_0 X.H_0 0 [] [] := by exact fun _ _ _ _ _ => rfl) :
    DS X L (.Assign [.Name y py] (.ListComp elt [⟨tg, iter, ifs, 0⟩, ⟨tg1, iter1, ifs1, 0⟩] scope pos) spos) (tAsg (tLc2 wi (t1 X.s_0 X.H_0 0 [] []) (tt X.s_0 X.H_0 0 [] []) (wi1 X.s_0 X.H_0 0 [] []) (t2 X.s_0 X.H_0 0 [] []) (tt1 X.s_0 X.H_0 0 [] []) (te X.s_0 X.H_0 0 [] []) (own.map (·.2)) vs1) (gName i)) (sSet i (eFrz (eComp2 lk (own.map (·.2)) fi g1 fc lk1 vs1 fi1 g2 fc1 fe))) :=
  ⟨ps_setLc2 hcm hN hy hyl hsw hi.pe ok hvv (fun s H C cl fp => h1 s H C cl fp ▸ (hg s H C cl fp).pe) (fun s H C cl fp => h2 s H C cl fp ▸ (ht s H C cl fp).pe) (fun s H C cl fp => h4 s H C cl fp ▸ (hi1 s H C cl fp).pe) (fun s H C cl fp => h5 s H C cl fp ▸ (hg1 s H C cl fp).pe) (fun s H C cl fp => h6 s H C cl fp ▸ (ht1 s H C cl fp).pe) (fun s H C cl fp => h3 s H C cl fp ▸ (he s H C cl fp).pe) hs hs1,
   ss_set hl (se_frz (sn_comp2 hi.se (hg X.s_0 X.H_0 0 [] []).se (ht X.s_0 X.H_0 0 [] []).se (hi1 X.s_0 X.H_0 0 [] []).se (hg1 X.s_0 X.H_0 0 [] []).se (ht1 X.s_0 X.H_0 0 [] []).se (he X.s_0 X.H_0 0 [] []).se hw hw1 hvv hlv hlv1))⟩
end
/-! ## a, b, c = x, y, z -/
def sPar3 (i j l : Nat) (f : FA) : FS := fun ρ => (f ρ).bind fun p => match p.1 with
  | [d, e, g] => some (.nx (((p.2.set i (.sh d)).set j (.sh e)).set l (.sh g)))
  | _ => none
section
variable {X : Cx} {L : List Nat} {pos : Pos}
theorem ds_par3 {i j l : Nat} {x y z : Str} {a b c : Expr} {ta : TA} {fa : FA} {px py pz pt : Pos} {kt k2 pt2} (hc : X.calm = true) (hN : X.N.Nodup) (ha : DA X [a, b, c] ta fa) (hi : X.N[i]? = some x := by rfl) (hj : X.N[j]? = some y := by rfl) (hl : X.N[l]? = some z := by rfl) (hij : i ≠ j := by decide) (hil : i ≠ l := by decide) (hjl : j ≠ l := by decide)
    (hli : i ∉ L := by decide) (hlj : j ∉ L := by decide) (hll : l ∉ L := by decide)
    (hx : X.env.scope.names.lookup x = some .local := by rfl) (hy : X.env.scope.names.lookup y = some .local := by rfl) (hz : X.env.scope.names.lookup z = some .local := by rfl)
    (hw : swappedStores [.Tuple [.Name x px, .Name y py, .Name z pz] kt pt] (.Tuple [a, b, c] k2 pt2) X.env = pure (some [x, y, z]) := by rfl)
    (hs : swapsWithSole [.Tuple [.Name x px, .Name y py, .Name z pz] kt pt] (.Tuple [a, b, c] k2 pt2) pos.line X.env = pure false := by rfl) :
    DS X L (.Assign [.Tuple [.Name x px, .Name y py, .Name z pz] kt pt] (.Tuple [a, b, c] k2 pt2) pos) (tPar3 i j l ta) (sPar3 i j l fa) := ⟨ps_par3 hc hN hi hj hl hij hil hjl hx hy hz ha.pe hw hs, fun B F io σ H ρ o Dn hL c h p => by
  obtain ⟨q, e1, h⟩ := Option.bind_eq_some_iff.mp h
  refine ha.se B F io σ H ρ q.1 q.2 _ c e1 fun F1 H1 vs g1 c1 d1 => ?_
  obtain ⟨ds, ρ1⟩ := q
  match ds, d1, h with
  | [d, e, g], d1, h =>
    obtain ⟨v, w, u, rfl, q1, q2, q3⟩ := three_of d1
    cases h
    exact ⟨v, w, u, rfl, p F1 _ H1 g1 (((c1.set_sh (by rw [hL]; exact hli) q1).set_sh (by rw [hL]; exact hlj) q2).set_sh (by rw [hL]; exact hll) q3)⟩⟩
end
/-! ## tuple(range(a, b, c)) -/
def rg3N (i j c : Int) : Nat := ((j - i + c - 1) / c).toNat
def rg3V (i j c : Int) : List V := (List.range (rg3N i j c)).map fun k => V.int (i + (k : Nat) * c)
def rg3Ok (i j c : Int) : Bool := decide (0 ≤ i ∧ i < 2 ^ 20 ∧ 0 ≤ j ∧ j < 2 ^ 20 ∧ 0 < c ∧ c < 2 ^ 20)
theorem rg3_size {i j c : Int} (hc : 0 < c) : PySem.Builtin.Range.rangeSize i j c = ((rg3N i j c : Nat) : Int) := by
  unfold PySem.Builtin.Range.rangeSize rg3N
  rw [if_pos (by omega)]
  have e : j - i + c - 1 = (j - i - 1) + 1 * c := by omega
  by_cases h : i < j
  · rw [if_pos h, e, Int.add_mul_ediv_right _ _ (by omega), Int.toNat_of_nonneg (by have := Int.ediv_nonneg (a := j - i - 1) (b := c) (by omega) (by omega); omega)]
  · rw [if_neg h]
    have : (j - i + c - 1) / c ≤ 0 := by
      have : (j - i + c - 1) / c < 1 := Int.ediv_lt_of_lt_mul hc (by omega)
      omega
    omega
theorem rg3_le {i j c : Int} (h : rg3Ok i j c = true) : rg3N i j c ≤ 2 ^ 21 := by
  unfold rg3Ok at h
  simp only [decide_eq_true_eq] at h
  obtain ⟨h1, h2, h3, h4, h5, h6⟩ := h
  unfold rg3N
  have : (j - i + c - 1) / c < 2 ^ 21 := by
    refine Int.ediv_lt_of_lt_mul h5 ?_
    have : (2:Int) ^ 21 * 1 ≤ 2 ^ 21 * c := Int.mul_le_mul_of_nonneg_left (by omega) (by decide)
    omega
  omega
theorem rg3_small {i j c : Int} (h : rg3Ok i j c = true) : PySem.Builtin.Range.small i j c = true := by
  have hn := rg3_le h
  unfold rg3Ok at h
  simp only [decide_eq_true_eq] at h
  obtain ⟨h1, h2, h3, h4, h5, h6⟩ := h
  unfold PySem.Builtin.Range.small
  rw [rg3_size h5]
  generalize rg3N i j c = n at *
  have f : ∀ x : Int, -(2 ^ 62) ≤ x → x < 2 ^ 62 → PySem.Builtin.Range.rangeFitsLong x = true := by
    intro x a b
    unfold PySem.Builtin.Range.rangeFitsLong
    simp
    omega
  rw [if_pos (by omega), f i (by omega) (by omega), f j (by omega) (by omega), f c (by omega) (by omega), f n (by omega) (by omega), f (j + (c - 1)) (by omega) (by omega)]
  simp
theorem rg3V_length (i j c : Int) : (rg3V i j c).length = rg3N i j c := by unfold rg3V; rw [List.length_map, List.length_range]
theorem vals_rg3 {i j c : Int} {acc : Array Value} (h : ItemsOf (fun k v => ∃ t, v = .int (i + k * c) t) acc (rg3N i j c)) : Vals (rg3V i j c) acc.toList := by
  have e : acc.toList.length = rg3N i j c := by rw [Array.length_toList]; exact h.1
  unfold rg3V
  rw [← e]
  refine vals_of_get acc.toList _ fun n u hj => ?_
  obtain ⟨t, rfl⟩ := h.2 n u (by rw [← hj, Array.getElem?_toList])
  exact ⟨t, rfl⟩
def tRg3 (ta : TA) : TE := fun σ H Q => ta σ H fun vs H1 => ∃ i j c, vs = [.int i, .int j, .int c] ∧ rg3Ok i j c = true ∧ ∀ q, H1 q = none → Q (.ref q) (upd H1 q (.tup (rg3V i j c)))
theorem dpAll_rg3 {K : PySem.W.Frag} {F : Hp} (i j c : Int) : DpAll K F (rg3V i j c) ((rngC i c (rg3N i j c))) := by
  unfold rg3V rngC
  generalize List.range (rg3N i j c) = l
  induction l with
  | nil => exact .nil
  | cons x r ih => exact .cons (.int _) ih
def eRg3 (fa : FA) : FE := fun ρ => (fa ρ).bind fun p => match p.1 with
  | [.int i, .int j, .int c] => if rg3Ok i j c = true then some (.tuple ((rngC i c (rg3N i j c))), p.2) else none
  | _ => none
section
variable {X : Cx} {a b e : Expr} {ta : TA} {fa : FA} {p p' pos pos' : Pos}
theorem pe_rg3 (hc : X.calm = true) (hg' : Gl X "tuple") (hm' : X.mg "tuple" = none) (hg : Gl X "range") (hm : X.mg "range" = none) (ha : PA X [a, b, e] ta)
    (he : starEach [a, b, e] X.env = (false, eval a X.env) :: starEach [b, e] X.env := by rfl) (hpl : (backTo pos' (starEach [b, e] X.env)).any (·.1) = false := by rfl)
    (na : starEach [.Call (.Name "range" p') [a, b, e] [] pos'] X.env = (false, eval (.Call (.Name "range" p') [a, b, e] [] pos') X.env) :: starEach [] X.env := by rfl) : PE X (.Call (.Name "tuple" p) [.Call (.Name "range" p') [a, b, e] [] pos'] [] pos) (tRg3 ta) := by
  refine ⟨fun pins s σ H Q I h => ?_⟩
  refine Call_ (ld_blt I hg' hm' boot_tuple (PyProof.Rows.callWith_type1 (args_cons (thn (Q := fun x s' => ∃ r i j c t u v H', x = .ref r ∧ IsRange s'.heap r i j c t u v ∧ Inv X pins σ H' s' ∧ rg3Ok i j c = true ∧ ∀ q, H' q = none → Q (.ref q) (upd H' q (.tup (rg3V i j c)))) ?_ fun x s1 ⟨r, i, j, c, t, u, v, H1, ex, hr, I1, ok, q⟩ => args_nil ?_) na) na))
  · refine Call_ (ld_blt I hg hm boot_range (PyProof.Rows.callWith_type1 (thn (ha.run pos' pins s σ H _ I h) fun us s1 ⟨vs, H1, I1, r1, q1⟩ => ?_) he hpl))
    obtain ⟨i, j, c, rfl, ok, q⟩ := q1
    cases r1 with
    | cons a1 r1 =>
    cases r1 with
    | cons a2 r1 =>
    cases r1 with
    | cons a3 r1 =>
    cases r1
    obtain ⟨t1, rfl⟩ := a1
    obtain ⟨t2, rfl⟩ := a2
    obtain ⟨t3, rfl⟩ := a3
    have ok' := ok
    unfold rg3Ok at ok'
    simp only [decide_eq_true_eq] at ok'
    exact call_range_3 (by omega) ⟨_, i, j, c, _, _, _, H1, rfl, IsRange.new _ _ _ _ _ _ _, I1.kept fun b u e => Heap.get?_push_of_some _ e, ok, q⟩ (Or.inl (PyProof.noPylong_small (by omega)))
  · subst ex
    have hn := rg3_le ok
    have hc0 : 0 < c := by unfold rg3Ok at ok; simp only [decide_eq_true_eq] at ok; omega
    refine call_tuple_range (n := rg3N i j c) (I1.ok.hd hc) hr (rg3_small ok) (rg3_size hc0) (by omega) fun h' tk acc hk hi => ?_
    have I2 : Inv X pins σ H1 { s1 with heap := h', toks := tk } := I1.kept hk
    refine ⟨.ref h'.objs.size, upd H1 h'.objs.size (.tup (rg3V i j c)), I2.laid (t' := tk) (fun c o e => Heap.get?_push_of_some _ e) (Nat.le_refl _) (show ObjOk X.prog X.w _ _ _ (.tup (rg3V i j c)) from ⟨?_, acc.toList, vals_rg3 hi, ?_⟩), rfl, q _ (I2.hok.fresh (Nat.le_refl _))⟩
    · rw [rg3V_length, sizeLine_eq]; omega
    · rw [Array.toArray_toList]; exact IsTup.new _ _
theorem de_rg3 (hc : X.calm = true) (ha : DA X [a, b, e] ta fa) (hm : X.mg "range" = none) (hm' : X.mg "tuple" = none) (hg' : Gl X "tuple" := by rfl) (hg : Gl X "range" := by rfl)
    (he : starEach [a, b, e] X.env = (false, eval a X.env) :: starEach [b, e] X.env := by rfl) (hpl : (backTo pos' (starEach [b, e] X.env)).any (·.1) = false := by rfl)
    (na : starEach [.Call (.Name "range" p') [a, b, e] [] pos'] X.env = (false, eval (.Call (.Name "range" p') [a, b, e] [] pos') X.env) :: starEach [] X.env := by rfl) : DE X (.Call (.Name "tuple" p) [.Call (.Name "range" p') [a, b, e] [] pos'] [] pos) (tRg3 ta) (eRg3 fa) := by
  refine ⟨pe_rg3 hc hg' hm' hg hm ha.pe he hpl na, ?_⟩
  intro B F io σ H ρ d ρ' Q c h k
  obtain ⟨⟨ds, ρ1⟩, e1, h⟩ := Option.bind_eq_some_iff.mp h
  refine ha.se B F io σ H ρ ds ρ1 _ c e1 fun F1 H1 vs g1 c1 d1 => ?_
  match ds, h with
  | [.int i, .int j, .int l], h =>
    obtain ⟨v, w, u, rfl, q1, q2, q3⟩ := three_of d1
    by_cases hz : rg3Ok i j l = true
    · simp only [hz, if_true] at h
      cases h
      cases q1; cases q2; cases q3
      refine ⟨i, j, l, rfl, hz, fun n nn => ?_⟩
      have al := Al.laid (o := .tup (rg3V i j l)) c1.frz nn
      exact k _ _ _ (g1.trans (al.gr c1.base)) (c1.al al) (.tup (.inl (.inl upd_same)) (dpAll_rg3 _ _ _))
    · simp [hz] at h
end
end L2.Pd

namespace L2.Pd
open PySem PySem.Spec PyProof.Rows
/-! ## a comprehension inside a comprehension -/
def relS (SC sc : Scope) : Scope := { SC with names := SC.names.map fun (n, k) => if (k == .free && sc.kind == .function && sc.names.lookup n == some .cell) then (n, .cell) else (n, k) }
theorem blkOk_in {X : Cx} {s : Shared} {H : Hp} {SC scope : Scope} {cl : List (Str × Addr)} {C : Addr} {fp : List Addr} {own : List (Str × Nat)} {N : List Str} {sc : Scope} (h : BlkOk N (relS SC sc) scope own) (hN : X.N = N := by rfl) (hs : X.env.scope = sc := by rfl) :
    BlkOk (X.blk s H SC (compEnvC SC cl C X.env) fp).N (X.blk s H SC (compEnvC SC cl C X.env) fp).env.scope scope own := by
  subst hN
  subst hs
  exact h
end L2.Pd

namespace L2.Pd
open PySem PySem.Spec PyProof.Rows
/-! ## lists: a * n, a new own list -/
def rMulL (K : PySem.W.Frag) : R2 := fun x y H Q => ∃ (l : Addr) (xs : List V) (k : Int), x = .ref l ∧ y = .int k ∧ SqL K H l xs ∧ -(2 ^ 62) ≤ k ∧ k < 2 ^ 62 ∧ xs.length * k.toNat ≤ 16777216 ∧ ∀ p, H p = none → Q (.ref p) (upd H p (.lst (List.replicate k.toNat xs).flatten))
theorem op_mulL {X : Cx} : OpR X (binaryOp .Mult) (rMulL X.K) := by
  intro pins s σ H x y v u Q I rx ry h
  obtain ⟨l, xs, k, rfl, rfl, hH, h1, h2, hz, q⟩ := h
  cases rx
  obtain ⟨t, rfl⟩ := ry
  obtain ⟨its, r, ht, _⟩ := I.list hH
  have hle : its.length = xs.length := r.length.symm
  obtain ⟨⟨cls, d, data, sl⟩, ho, hcl, n, hd⟩ := ht.isList
  simp only at hcl hd
  subst hcl hd
  have hsz' : its.toArray.size * k.toNat ≤ 2 ^ 24 := by
    rw [List.size_toArray, hle]
    have : (2 : Nat) ^ 24 = 16777216 := by decide
    omega
  refine wpAny_binaryOp_repeat_ref (T := "list") (U := "int") (by decide) ⟨_, ho, rfl⟩ (fun s' => typeIs_int s' k t) noFill_list_mul PySem.F.fills_int_mul PySem.F.slot_int_rmul repeat_list PySem.F.slot_int_index.lookup
    (call_meets PySem.F.slot_int_rmul (typeIs_int s k t) PySem.F.entry_int_rmul (PySem.F.args_int_rmul_2 _ _) (lm_int_rmul_list_any k t l its.toArray n d sl)
      ⟨ho, rfl, ⟨_, ho, rfl⟩, call_meets PySem.F.slot_list_mul ⟨_, ho, rfl⟩ PySem.F.entry_list_mul (PySem.F.args_list_mul_2 _ _)
        (lm_list_mul_any l its.toArray n d sl k t (by simp [Builtin.List.listFitsIndex]; omega) (by omega) (by simp [Builtin.List.listTooLong, sizeLine]; omega))
        ⟨ho, ?_⟩⟩)
  rw [listMul_foldl_if]
  refine ⟨.ref _, _, I.lnew (t' := s.toks) (r.rep k.toNat) ?_, rfl, q _ I.fresh⟩
  rw [PyProof.Rows.lm_len_rep_flat, sizeLine_eq, Nat.mul_comm]
  exact hz
def dMulL : D → D → Option Cell
  | .list ds, .int k => if repOk ds.length k = true then some (.ol (List.replicate k.toNat ds).flatten) else none
  | _, _ => none
theorem v_mulL {K : PySem.W.Frag} : Op2N K (rMulL K) dMulL := by
  intro F H x y dx dy c Q s hx hy e k
  match dx, dy, hx, hy, e with
  | .list ds, .int n, hx, hy, e =>
    cases hy
    cases hx with
    | @lst a xs _ q1 r1 =>
      have e : (if repOk ds.length n = true then some (Cell.ol (List.replicate n.toNat ds).flatten) else none) = some c := e
      by_cases hz : repOk ds.length n = true
      · rw [if_pos hz] at e; cases e
        obtain ⟨h1, h2, h3⟩ := repOk_eq hz
        refine ⟨a, xs, n, rfl, rfl, s.seq q1, h1, h2, by rw [r1.length]; exact h3, fun p np => ?_⟩
        exact k F _ p (.lst (List.replicate n.toNat xs).flatten) (Al.laidH s np) upd_same (dpAll_rep r1 n.toNat) (s.free np) np
      · rw [if_neg hz] at e; cases e
end L2.Pd

namespace L2.Pd
open PySem PySem.Spec PyProof.Rows L2
/-! ## Defs that may raise: one class, nothing handed back -/
/-- true: it raises; false: it hands back None -/
abbrev FnX := List D → Option Bool
abbrev FX := En → Option Bool
def spX (K : PySem.W.Frag) (C : Addr) (m : FnX) : Sp := fun vs H Q E => ∃ (F : Hp) (ds : List D) (b : Bool), Same F H ∧ DpAll K F vs ds ∧ m ds = some b ∧
  (b = false → ∀ F' H', Al F H F' H' → Q .non H') ∧ (b = true → ∀ F' H', Al F H F' H' → E (.ref C) none H')
def SX (K : PySem.W.Frag) (C : Addr) (E : XK) (t : TS) (f : FX) : Prop := ∀ (B F : Hp) (σ : St) (H : Hp) (ρ : En) (b : Bool) (Dn : Ends), Con K B F [] σ H ρ → f ρ = some b →
  (b = false → ∀ F' σ' H' ρ', Gr B F F' → Con K B F' [] σ' H' ρ' → Dn.nx σ' H') → (b = true → ∀ F' σ' H' ρ', Gr B F F' → Con K B F' [] σ' H' ρ' → E (.ref C) none H') → t Dn σ H
structure DX (X : Cx) (C : Addr) (E : XK) (st : List Stmt) (f : FX) : Prop where
  ex : ∃ t, PSs X st t ∧ SX X.K C E t f
def xEnd : FX := fun _ => some false
def xSeq (f : FS) (g : FX) : FX := fun ρ => (f ρ).bind fun o => match o with
  | .nx ρ' => g ρ'
  | _ => none
def xRz (c : FT) (g : FX) : FX := fun ρ => (c ρ).bind fun p => if p.1 = true then some true else g p.2
section
variable {X : Cx} {C : Addr} {E : XK} {st : Stmt} {rest : List Stmt} {f : FS} {g : FX} {t : TS} {tc : TT} {fc : FT} {test : Expr} {pos : Pos} {rz : Stmt}
theorem dx_end : DX X C E [] xEnd := ⟨tNext, pss_nil, fun B F σ H ρ b Dn c h k0 _ => by
  cases h
  exact k0 rfl F σ H ρ (Gr.refl _ _) c⟩
theorem ps_nox {t : TS} (h : PS X.nox st t) : PS X st t := ⟨fun pins s σ H D I q => wpAny_mono (h.run pins s σ H D (I.wish _) q) (fun _ _ z => z.unwish) fun _ _ z => z.elim⟩
theorem dx_seq (h1 : DS X.nox [] st t f) (h2 : DX X C E rest g) : DX X C E (st :: rest) (xSeq f g) := by
  obtain ⟨u, p2, s2⟩ := h2.ex
  have hp : PS X st t := ps_nox h1.pe
  refine ⟨⟨tSeq t u, pss_cons hp p2, ?_⟩⟩
  intro B F σ H ρ b Dn c h k0 k1
  obtain ⟨o, e1, e⟩ := Option.bind_eq_some_iff.mp h
  refine h1.se B F [] σ H ρ o { Dn with nx := u Dn } rfl c e1 ?_
  cases o with
  | nx ρ1 => exact fun F' σ' H' g' c' => s2 B F' σ' H' ρ1 b Dn c' e (fun z F2 σ2 H2 ρ2 g2 c2 => k0 z F2 σ2 H2 ρ2 (g'.trans g2) c2) (fun z F2 σ2 H2 ρ2 g2 c2 => k1 z F2 σ2 H2 ρ2 (g'.trans g2) c2)
  | bk ρ1 => cases e
  | ct ρ1 => cases e
  | rt c1 ρ1 => cases e
theorem dx_rz (hc : DT X.nox test tc fc) (hr : PS X rz (fun _ _ H => E (.ref C) none H)) (h2 : DX X C E rest g) : DX X C E (.If test [rz] [] pos :: rest) (xRz fc g) := by
  obtain ⟨u, p2, s2⟩ := h2.ex
  refine ⟨⟨tSeq (tIfS tc (fun _ _ H => E (.ref C) none H) tNext) u, pss_cons (ps_if hc.pe.nox (pss_one hr) pss_nil) p2, ?_⟩⟩
  intro B F σ H ρ b Dn c h k0 k1
  obtain ⟨q, e1, e⟩ := Option.bind_eq_some_iff.mp h
  refine hc.se B F [] σ H ρ q.1 q.2 _ c e1 fun F' H' g' c' => ?_
  by_cases hq : q.1 = true
  · rw [if_pos hq] at e ⊢
    cases e
    exact k1 rfl F' σ H' q.2 g' c'
  · rw [if_neg hq] at e ⊢
    exact s2 B F' σ H' q.2 b Dn c' e (fun z F2 σ2 H2 ρ2 g2 c2 => k0 z F2 σ2 H2 ρ2 (g'.trans g2) c2) (fun z F2 σ2 H2 ρ2 g2 c2 => k1 z F2 σ2 H2 ρ2 (g'.trans g2) c2)
end
/-- what a class must say, so that it can be raised and asked for -/
structure ExF (K : PySem.W.Frag) (mg : Str → Option Value) (x : Str) (C : Addr) : Prop where
  g : mg x = some (.ref C)
  x : PySem.W.excIn K C [.type "ValueError", .type "Exception", .type "BaseException", .type "object"] "ValueError.__new__" = true
  k : PySem.W.keepIn K (.ref C) = true
  b : PySem.W.subIn K (.ref C) (.type "BaseException") = some true
  t : PySem.W.typeIn K (.ref C) = some (.type "type")
def fnX (n : Nat) (body : FX) : FnX := fun ds => body (ds.map Cell.sh ++ List.replicate (n - ds.length) Cell.dead)
section
variable {P : Program} {w : World} {K : PySem.W.Frag} {mg : Str → Option Value} {base : Heap}
theorem con_start {N : List Str} {F H : Hp} {vs : List V} {ds : List D} (hl : ds.length ≤ N.length) (sm : Same F H) (h : DpAll K F vs ds) : Con K H F [] (L2.start N vs) H (ds.map Cell.sh ++ List.replicate (N.length - ds.length) Cell.dead) := by
  have hv : vs.length = ds.length := h.length
  refine ⟨?_, Same.refl H, sm, fun i c hc => ?_, fun i j c e a h1 _ o1 => ?_, fun p hp => absurd hp List.not_mem_nil⟩
  · unfold L2.start
    rw [List.length_append, List.length_append, List.length_map, List.length_map, List.length_replicate, List.length_replicate, hv]
  · by_cases hi : i < ds.length
    · rw [List.getElem?_append_left (by rw [List.length_map]; exact hi)] at hc
      obtain ⟨v, d, e1, e2, q⟩ := shs_get h hc
      refine ⟨some v, ?_, ?_⟩
      · unfold L2.start
        rw [List.getElem?_append_left (by rw [List.length_map]; omega), List.getElem?_map, e1]
        rfl
      · rw [e2]
        exact ⟨v, rfl, q⟩
    · rw [List.getElem?_append_right (by rw [List.length_map]; omega)] at hc
      have e := List.eq_of_mem_replicate (List.mem_of_getElem? hc)
      have hlt := (List.getElem?_eq_some_iff.mp hc).1
      rw [List.length_map, List.length_replicate] at hlt
      have hs : i < (L2.start N vs).length := by
        unfold L2.start
        rw [List.length_append, List.length_map, List.length_replicate]
        omega
      exact ⟨_, List.getElem?_eq_getElem hs, by rw [e]; trivial⟩
  · exfalso
    by_cases hi : i < ds.length
    · rw [List.getElem?_append_left (by rw [List.length_map]; exact hi)] at h1
      obtain ⟨_, _, _, e2, _⟩ := shs_get h h1
      rw [e2] at o1
      cases o1
    · rw [List.getElem?_append_right (by rw [List.length_map]; omega)] at h1
      rw [List.eq_of_mem_replicate (List.mem_of_getElem? h1)] at o1
      cases o1
/-- the def x raises C or hands back None, as m tells -/
structure CalX (P : Program) (w : World) (K : PySem.W.Frag) (mg : Str → Option Value) (base : Heap) (k : Nat) (x : Str) (ps : List Str) (C : Addr) (m : FnX) : Prop where
  ex : ∃ (f : Addr) (fd : FuncData), FnOk P w K mg base (L2N.CX P w) k f fd ps (fun vs H Q E => vs.length = ps.length ∧ spX K C m vs H Q E) ∧ mg x = some (.ref f) ∧ PySem.W.keepIn K (.ref f) = true ∧ Binds K fd ps []
theorem pdx_cal {x : Str} {st : Stmt} {N ps : List Str} {k : Nat} {C : Addr} {n : Nat} {body : FX} (S : Src K mg x st ps) (Sc : FnScope N ps (defScope st)) (hn : N.length = n := by rfl)
    (hbody : ∀ (f : Addr) (cdv : Value) (A : Around) (outer : List Env) (s : Shared) (H : Hp) (E : XK), Room k (A.deeper (envOfC x (defScope st) s.heap.objs.size f cdv)) →
      DX (cxOf (L2N.CX P w) P w K mg base N x (defScope st) f cdv A outer s H E) C E (defBody st) body) : CalX P w K mg base (k + 1) x ps C (fnX n body) := by
  subst hn
  obtain ⟨f, fd, Fn, hm, hb⟩ := S.ex
  refine ⟨f, fd, ?_, hm, Fn.kp, hb⟩
  obtain ⟨oc, od, kV, doc, pm, an, cdv, ct, osl, rfl, lk, hcd⟩ := Fn.ex
  refine fn_of lk hcd Sc (fun vs H Q E h => h.1) fun A outer s H vs Q E hr hsp => ?_
  obtain ⟨hvl, F, ds, b, sm, hd, hm, k0, k1⟩ := hsp
  obtain ⟨t, pe, se⟩ := (hbody f cdv A outer s H E hr).ex
  refine ⟨t, pe, ?_⟩
  have hdl : ds.length = ps.length := by rw [← hvl]; exact hd.length.symm
  have hN : ds.length ≤ N.length := by
    rw [hdl, ← Sc.pre, List.length_take]
    exact Nat.min_le_right _ _
  have al : ∀ {F' σ' H' ρ'}, Gr H F F' → Con K H F' [] σ' H' ρ' → Al F H F' H' := fun g c => ⟨g.sub, c.base, c.frz, g.new⟩
  exact se H F _ H _ b _ (con_start hN sm hd) hm (fun z F' σ' H' ρ' g c => k0 z F' H' (al g c)) (fun z F' σ' H' ρ' g c => k1 z F' H' (al g c))
end
section
variable {P : Program} {w : World} {K : PySem.W.Frag} {mg : Str → Option Value} {base : Heap} {N : List Str} {q x m : Str} {sc : Scope} {f C : Addr} {cdv : Value} {A : Around} {outer : List Env} {s : Shared} {H : Hp} {E : XK} {j : Nat} {p p2 pos pos' : Pos}
theorem psx_raise (hA : (cxOf (L2N.CX P w) P w K mg base N q sc f cdv A outer s H E).calm = true) (F : ExF K mg x C) (hg : Gl (cxOf (L2N.CX P w) P w K mg base N q sc f cdv A outer s H E) x := by rfl) (hdb : (x == ("__debug__" : Str)) = false := by decide) :
    PS (cxOf (L2N.CX P w) P w K mg base N q sc f cdv A outer s H E) (.Raise (some (.Call (.Name x p) [.Constant (.str m) j p2] [] pos)) none pos') (fun _ _ H => E (.ref C) none H) :=
  L2N.ps_raise hA (L2N.takes_of rfl rfl rfl rfl) (L2N.pmk_own PySem.F.excBase_ValueError F.x F.g F.k (raises_own F.b F.t) hg hdb)
end
end L2.Pd

namespace L2.Pd
open PySem PySem.Spec PyProof.Rows L2
/-! ## Suites that hold an exception: slot i is the exception a, nothing is told of its cell -/
def HasE (i : Nat) (a : Addr) (σ : St) : Prop := σ[i]? = some (some (.ref a))
def SEe (K : PySem.W.Frag) (i : Nat) (a : Addr) (t : TE) (f : FE) : Prop := ∀ (B F : Hp) (io : List (Nat × Addr)) (σ : St) (H : Hp) (ρ : En) (d : D) (ρ' : En) (Q : VK), HasE i a σ → Con K B F io σ H ρ → f ρ = some (d, ρ') →
  (∀ F' H' v, Gr B F F' → Con K B F' io σ H' ρ' → Dp K F' v d → Q v H') → t σ H Q
def STe (K : PySem.W.Frag) (i : Nat) (a : Addr) (t : TT) (f : FT) : Prop := ∀ (B F : Hp) (io : List (Nat × Addr)) (σ : St) (H : Hp) (ρ : En) (b : Bool) (ρ' : En) (Q : Bool → Hp → Prop), HasE i a σ → Con K B F io σ H ρ → f ρ = some (b, ρ') →
  (∀ F' H', Gr B F F' → Con K B F' io σ H' ρ' → Q b H') → t σ H Q
def SSe (K : PySem.W.Frag) (L : List Nat) (i : Nat) (a : Addr) (t : TS) (f : FS) : Prop := ∀ (B F : Hp) (io : List (Nat × Addr)) (σ : St) (H : Hp) (ρ : En) (o : Out) (Dn : Ends), HasE i a σ → io.map (·.1) = L → Con K B F io σ H ρ → f ρ = some o → Post K B F io Dn o → t Dn σ H
structure DEe (X : Cx) (i : Nat) (a : Addr) (e : Expr) (t : TE) (f : FE) : Prop where
  pe : PE X e t
  se : SEe X.K i a t f
structure DTe (X : Cx) (i : Nat) (a : Addr) (e : Expr) (t : TT) (f : FT) : Prop where
  pe : PT X e t
  se : STe X.K i a t f
structure DWe (X : Cx) (i : Nat) (a : Addr) (e : Expr) (t : TT) (f : FT) : Prop where
  pe : PW X e t
  se : STe X.K i a t f
structure DSe (X : Cx) (L : List Nat) (i : Nat) (a : Addr) (st : List Stmt) (t : TS) (f : FS) : Prop where
  pe : PSs X st t
  se : SSe X.K L i a t f
section
variable {X : Cx} {i : Nat} {a : Addr} {e x y : Expr} {ta tb te : TE} {fa fb fe : FE} {tA tB : TT} {fA fB : FT} {pos : Pos} {rest : List Expr} {L : List Nat} {sts : List Stmt} {u : TS} {g : FS}
theorem DE.ee (h : DE X e te fe) : DEe X i a e te fe := ⟨h.pe, fun B F io σ H ρ d ρ' Q _ c e k => h.se B F io σ H ρ d ρ' Q c e k⟩
theorem DT.ee (h : DT X e tA fA) : DTe X i a e tA fA := ⟨h.pe, fun B F io σ H ρ d ρ' Q _ c e k => h.se B F io σ H ρ d ρ' Q c e k⟩
theorem DWe.dt (h : DWe X i a e tA fA) : DTe X i a e tA fA := ⟨h.pe.pt, h.se⟩
theorem dee_one {op} (h : DEe X i a x ta fa) : DEe X i a (.BoolOp op [x] pos) ta fa := ⟨pe_one h.pe, h.se⟩
theorem dee_and (ha : DEe X i a x ta fa) (hb : DEe X i a (.BoolOp .And (y :: rest) pos) tb fb) : DEe X i a (.BoolOp .And (x :: y :: rest) pos) (tAndT X.K ta tb) (eAndV fa fb) := ⟨pe_andT ha.pe hb.pe, by
  intro B F io σ H ρ d ρ' Q hσ c e k
  obtain ⟨p, e1, e⟩ := Option.bind_eq_some_iff.mp e
  obtain ⟨z, e2, e⟩ := Option.bind_eq_some_iff.mp e
  refine ha.se B F io σ H ρ p.1 p.2 _ hσ c e1 fun F1 H1 x g1 c1 d1 => ⟨z, tru_dp c1.frz d1 e2, ?_⟩
  by_cases hp : z = true
  · rw [if_pos hp] at e ⊢
    exact hb.se B F1 io σ H1 p.2 d ρ' Q hσ c1 e fun F2 H2 v g2 c2 d2 => k F2 H2 v (g1.trans g2) c2 d2
  · rw [if_neg hp] at e ⊢
    cases e
    exact k F1 H1 x g1 c1 d1⟩
theorem dee_or (ha : DEe X i a x ta fa) (hb : DEe X i a (.BoolOp .Or (y :: rest) pos) tb fb) : DEe X i a (.BoolOp .Or (x :: y :: rest) pos) (tOrT X.K ta tb) (eOrV fa fb) := ⟨pe_orT ha.pe hb.pe, by
  intro B F io σ H ρ d ρ' Q hσ c e k
  obtain ⟨p, e1, e⟩ := Option.bind_eq_some_iff.mp e
  obtain ⟨z, e2, e⟩ := Option.bind_eq_some_iff.mp e
  refine ha.se B F io σ H ρ p.1 p.2 _ hσ c e1 fun F1 H1 x g1 c1 d1 => ⟨z, tru_dp c1.frz d1 e2, ?_⟩
  by_cases hp : z = true
  · rw [if_pos hp] at e ⊢
    cases e
    exact k F1 H1 x g1 c1 d1
  · rw [if_neg hp] at e ⊢
    exact hb.se B F1 io σ H1 p.2 d ρ' Q hσ c1 e fun F2 H2 v g2 c2 d2 => k F2 H2 v (g1.trans g2) c2 d2⟩
theorem dee_not (ha : DEe X i a x ta fa) : DEe X i a (.UnaryOp .Not x pos) (tNotT X.K ta) (eNotV fa) := ⟨pe_notT ha.pe, by
  intro B F io σ H ρ d ρ' Q hσ c e k
  obtain ⟨p, e1, e⟩ := Option.bind_eq_some_iff.mp e
  obtain ⟨z, e2, e3⟩ := Option.map_eq_some_iff.mp e
  cases e3
  exact ha.se B F io σ H ρ p.1 p.2 _ hσ c e1 fun F1 H1 x g1 c1 d1 => ⟨z, tru_dp c1.frz d1 e2, k F1 H1 _ g1 c1 (.bl _)⟩⟩
theorem dte_not (ha : DTe X i a x tA fA) : DTe X i a (.UnaryOp .Not x pos) (tNot tA) (eNot fA) := ⟨pt_not ha.pe, by
  intro B F io σ H ρ b ρ' Q hσ c e k
  obtain ⟨p, e1, e2⟩ := Option.map_eq_some_iff.mp e
  cases e2
  exact ha.se B F io σ H ρ p.1 p.2 _ hσ c e1 fun F1 H1 g1 c1 => k F1 H1 g1 c1⟩
theorem dte_tru (ha : DEe X i a x ta fa) (he : ∀ whole, isTrue x X.env whole = (do let v ← whole; standAt x.pos; holding [v] (truthy v)) := by intro _; rfl) :
    DTe X i a x (fun σ H Q => ta σ H fun x H' => ∃ k, TruV X.K x H' k ∧ Q k H') (eTru fa) := ⟨pt_truth ha.pe he, by
  intro B F io σ H ρ b ρ' Q hσ c e k
  obtain ⟨p, e1, e⟩ := Option.bind_eq_some_iff.mp e
  obtain ⟨z, e2, e3⟩ := Option.map_eq_some_iff.mp e
  cases e3
  exact ha.se B F io σ H ρ p.1 p.2 _ hσ c e1 fun F1 H1 x g1 c1 d1 => ⟨_, tru_dp c1.frz d1 e2, k F1 H1 g1 c1⟩⟩
theorem dwe_or1 (ha : DTe X i a x tA fA) : DWe X i a (.BoolOp .Or [x] pos) tA fA := ⟨pw_or1 ha.pe, ha.se⟩
theorem dwe_and1 (ha : DTe X i a x tA fA) : DWe X i a (.BoolOp .And [x] pos) tA fA := ⟨pw_and1 ha.pe, ha.se⟩
theorem dwe_or (ha : DTe X i a x tA fA) (hb : DWe X i a (.BoolOp .Or (y :: rest) pos) tB fB) : DWe X i a (.BoolOp .Or (x :: y :: rest) pos) (tOr tA tB) (eOr fA fB) := ⟨pw_or ha.pe hb.pe, by
  intro B F io σ H ρ b ρ' Q hσ c e k
  obtain ⟨p, e1, e⟩ := Option.bind_eq_some_iff.mp e
  refine ha.se B F io σ H ρ p.1 p.2 _ hσ c e1 fun F1 H1 g1 c1 => ?_
  by_cases hp : p.1 = true
  · rw [if_pos hp] at e ⊢
    cases e
    exact k F1 H1 g1 c1
  · rw [if_neg hp] at e ⊢
    exact hb.se B F1 io σ H1 p.2 b ρ' Q hσ c1 e fun F2 H2 g2 c2 => k F2 H2 (g1.trans g2) c2⟩
theorem dwe_and (ha : DTe X i a x tA fA) (hb : DWe X i a (.BoolOp .And (y :: rest) pos) tB fB) : DWe X i a (.BoolOp .And (x :: y :: rest) pos) (tAnd tA tB) (eAnd fA fB) := ⟨pw_and ha.pe hb.pe, by
  intro B F io σ H ρ b ρ' Q hσ c e k
  obtain ⟨p, e1, e⟩ := Option.bind_eq_some_iff.mp e
  refine ha.se B F io σ H ρ p.1 p.2 _ hσ c e1 fun F1 H1 g1 c1 => ?_
  by_cases hp : p.1 = true
  · rw [if_pos hp] at e ⊢
    exact hb.se B F1 io σ H1 p.2 b ρ' Q hσ c1 e fun F2 H2 g2 c2 => k F2 H2 (g1.trans g2) c2
  · rw [if_neg hp] at e ⊢
    cases e
    exact k F1 H1 g1 c1⟩
theorem dse_ret {pos : Pos} (he : DEe X i a e te fe) : DSe X L i a [.Return (some e) pos] (tRet te) (sRet fe) := ⟨pss_one (ps_ret he.pe), fun B F io σ H ρ o Dn hσ hL c h p => by
  obtain ⟨q, e1, e2⟩ := Option.map_eq_some_iff.mp h
  subst e2
  exact he.se B F io σ H ρ q.1 q.2 _ hσ c e1 fun F' H' v g c' d => p F' σ H' v g c' d⟩
/-- if t: return e -/
def sIfRet (fc : FT) (fe : FE) (g : FS) : FS := fun ρ => (fc ρ).bind fun p => if p.1 = true then sRet fe p.2 else g p.2
theorem dse_ifret {pos pos' : Pos} (hc : DTe X i a x tA fA) (he : DEe X i a e te fe) (hr : DSe X L i a sts u g) : DSe X L i a (.If x [.Return (some e) pos'] [] pos :: sts) (tSeq (tIfS tA (tRet te) tNext) u) (sIfRet fA fe g) :=
  ⟨pss_cons (ps_if hc.pe (pss_one (ps_ret he.pe)) pss_nil) hr.pe, fun B F io σ H ρ o Dn hσ hL c h p => by
  obtain ⟨q, e1, h⟩ := Option.bind_eq_some_iff.mp h
  refine hc.se B F io σ H ρ q.1 q.2 _ hσ c e1 fun F' H' g' c' => ?_
  by_cases hq : q.1 = true
  · rw [if_pos hq] at h ⊢
    obtain ⟨r, e2, e3⟩ := Option.map_eq_some_iff.mp h
    subst e3
    exact he.se B F' io σ H' q.2 r.1 r.2 _ hσ c' e2 fun F2 H2 v g2 c2 d => p F2 σ H2 v (g'.trans g2) c2 d
  · rw [if_neg hq] at h ⊢
    exact hr.se B F' io σ H' q.2 o Dn hσ hL c' h (p.mono g')⟩
end
/-! ### isinstance of the exception -/
/-- a known answer -/
def eKn (b : Bool) : FE := fun ρ => some (.bool b, ρ)
section
variable {X : Cx} {a Cl : Addr} {oe : Obj}
theorem caught_at {pins : List (Addr × Obj)} {σ : St} {H : Hp} {s : Shared} (I : Inv X pins σ H s) (hp : (a, oe) ∈ X.pn) (hz : Zc (.ref Cl) none oe) (hf : ∃ vs, oe.data = .fields vs) : PySem.W.InstAt s.heap a oe Cl none := by
  have h1 := (I.pin (a, oe) (List.mem_append_left _ hp)).1
  obtain ⟨vs, hv⟩ := hf
  obtain ⟨k1, k2⟩ := hz
  revert h1
  cases oe
  intro h1
  simp only at k1 k2 hv
  subst k1 k2 hv
  exact ⟨h1, rfl, rfl, trivial⟩
/-- one class -/
def rXi (K : PySem.W.Frag) (Cl a : Addr) : List V → Hp → VK → Prop := fun xs H Q => ∃ (c : V) (u : Value) (b : Bool), xs = [.ref a, c] ∧ ClsV c u ∧ PySem.W.kitOne K (.ref Cl) u = some b ∧ Q (.bl b) H
/-- a tuple of classes -/
def rXt (K : PySem.W.Frag) (Cl a : Addr) : List V → Hp → VK → Prop := fun xs H Q => ∃ (tp : Addr) (cs : List V) (us : List Value) (b : Bool), xs = [.ref a, .ref tp] ∧ H tp = some (.tup cs) ∧ Paired ClsV cs us ∧ PySem.W.kitAny K (.ref Cl) us = some b ∧ Q (.bl b) H
theorem two_vals {v w : V} {us : List Value} (r : Vals [v, w] us) : ∃ p q, us = [p, q] ∧ RelV v p ∧ RelV w q := by
  cases r with
  | cons h1 r =>
    cases r with
    | cons h2 r => cases r; exact ⟨_, _, rfl, h1, h2⟩
theorem kx (C : ExcC X.K Cl) : PySem.W.KitX X.K (.ref a) (.ref Cl) (fun h => PySem.W.InstAt h a oe Cl none) := PySem.W.handS_kitx_exc C.hg C.hk C.hs C.hd C.ha C.hn C.ht C.hm
theorem call_xi (C : ExcC X.K Cl) (hz : Zc (.ref Cl) none oe) (hf : ∃ vs, oe.data = .fields vs) (hp : (a, oe) ∈ X.pn) : CallR X (.builtin "isinstance") (rXi X.K Cl a) := fun pins s σ H xs us Q I r h => by
  obtain ⟨c, v, b, rfl, k, e, q⟩ := h
  obtain ⟨u1, u2, rfl, r1, r2⟩ := two_vals r
  have e1 : u1 = .ref a := r1
  have e2 := k.eq r2
  subst e1 e2
  exact PySem.W.kia_one (kx C) I.kIn (caught_at I hp hz hf) e (fun z => by cases z) fun tk => ⟨.bl b, H, I.tok tk, rfl, q⟩
theorem call_xt (C : ExcC X.K Cl) (hz : Zc (.ref Cl) none oe) (hf : ∃ vs, oe.data = .fields vs) (hp : (a, oe) ∈ X.pn) : CallR X (.builtin "isinstance") (rXt X.K Cl a) := fun pins s σ H xs us Q I r h => by
  obtain ⟨tp, cs, ws, b, rfl, hT, k, e, q⟩ := h
  obtain ⟨u1, u2, rfl, r1, r2⟩ := two_vals r
  have e1 : u1 = .ref a := r1
  have e2 : u2 = .ref tp := r2
  subst e1 e2
  obtain ⟨_, its, rv, ob, g1, g2, n, g3⟩ := (show ObjOk X.prog X.w H s.heap tp (.tup cs) from I.hok tp _ hT)
  have e3 := ClsV.all k rv
  subst e3
  revert g1
  cases ob
  intro g1
  simp only at g2 g3
  subst g2 g3
  exact PySem.W.kia_tup (kx C) I.kIn (caught_at I hp hz hf) g1 e (fun z => by cases z) fun tk => ⟨.bl b, H, I.tok tk, rfl, q⟩
end
section
variable {X : Cx} {i : Nat} {a Cl : Addr} {oe : Obj} {n x y : Str} {p p1 p2 pos tpos : Pos} {c : V} {u : Value} {b : Bool}
theorem dee_isi (C : ExcC X.K Cl) (hz : Zc (.ref Cl) none oe) (hf : ∃ vs, oe.data = .fields vs) (hp : (a, oe) ∈ X.pn) (hy : PE X (.Name y p2) (tC c)) (kc : ClsV c u) (hk : PySem.W.kitOne X.K (.ref Cl) u = some b) (hm : X.mg x = none) (hi : X.N[i]? = some n := by rfl)
    (hv : bootBuiltins x = some (.builtin "isinstance") := by decide +kernel) (hg : Gl X x := by rfl) (hx : x ≠ "__name__" := by decide) (hdb : (x == ("__debug__" : Str)) = false := by decide)
    (hvi : Vis X.env.scope n := by first | exact Or.inl rfl | exact Or.inr (Or.inl rfl) | exact Or.inr (Or.inr rfl)) (hd : (n == ("__debug__" : Str)) = false := by decide) (hcd : (n == ("__classdict__" : Str)) = false := by decide)
    (s1 : starEach [.Name n p1, .Name y p2] X.env = (false, eval (.Name n p1) X.env) :: starEach [.Name y p2] X.env := by rfl) (s2 : starEach [.Name y p2] X.env = (false, eval (.Name y p2) X.env) :: starEach [] X.env := by rfl) (hpl : (backTo pos (starEach [.Name y p2] X.env)).any (·.1) = false := by rfl) :
    DEe X i a (.Call (.Name x p) [.Name n p1, .Name y p2] [] pos) (tCB (rXi X.K Cl a) (tCons (tVar i) (tCons (tC c) tNil))) (eKn b) :=
  ⟨pe_callB (call_xi C hz hf hp) hg hm hv (pa_cons (pe_var hi hvi hd hcd) (pa_cons hy pa_nil s2) s1) hx hdb s1 hpl, fun B F io σ H ρ d ρ' Q hσ c0 e k => by
    cases e
    exact ⟨.ref a, hσ, c, u, b, rfl, kc, hk, k F H _ (Gr.refl _ _) c0 (.bl b)⟩⟩
theorem dee_isit {tt : TE} {cs : List V} {us : List Value} {te : Expr} (C : ExcC X.K Cl) (hz : Zc (.ref Cl) none oe) (hf : ∃ vs, oe.data = .fields vs) (hp : (a, oe) ∈ X.pn) (ht : PE X te tt) (hT : ∀ (σ : St) (H : Hp) (Q : VK), (∀ q, H q = none → Q (.ref q) (upd H q (.tup cs))) → tt σ H Q) (kc : Paired ClsV cs us) (hk : PySem.W.kitAny X.K (.ref Cl) us = some b) (hm : X.mg x = none) (hi : X.N[i]? = some n := by rfl)
    (hv : bootBuiltins x = some (.builtin "isinstance") := by decide +kernel) (hg : Gl X x := by rfl) (hx : x ≠ "__name__" := by decide) (hdb : (x == ("__debug__" : Str)) = false := by decide)
    (hvi : Vis X.env.scope n := by first | exact Or.inl rfl | exact Or.inr (Or.inl rfl) | exact Or.inr (Or.inr rfl)) (hd : (n == ("__debug__" : Str)) = false := by decide) (hcd : (n == ("__classdict__" : Str)) = false := by decide)
    (s1 : starEach [.Name n p1, te] X.env = (false, eval (.Name n p1) X.env) :: starEach [te] X.env := by rfl) (s2 : starEach [te] X.env = (false, eval te X.env) :: starEach [] X.env := by rfl) (hpl : (backTo pos (starEach [te] X.env)).any (·.1) = false := by rfl) :
    DEe X i a (.Call (.Name x p) [.Name n p1, te] [] pos) (tCB (rXt X.K Cl a) (tCons (tVar i) (tCons tt tNil))) (eKn b) :=
  ⟨pe_callB (call_xt C hz hf hp) hg hm hv (pa_cons (pe_var hi hvi hd hcd) (pa_cons ht pa_nil s2) s1) hx hdb s1 hpl, fun B F io σ H ρ d ρ' Q hσ c0 e k => by
    cases e
    refine ⟨.ref a, hσ, hT σ H _ fun q nn => ?_⟩
    have al := Al.laid (o := .tup cs) c0.frz nn
    exact ⟨q, cs, us, b, rfl, upd_same, kc, hk, k _ _ _ (al.gr c0.base) (c0.al al) (.bl b)⟩⟩
end
/-! ### try: y = f(..) / except X as n: .. return .. -/
theorem con_dead {K : PySem.W.Frag} {B F : Hp} {io : List (Nat × Addr)} {σ : St} {H : Hp} {ρ : En} (c : Con K B F io σ H ρ) {i : Nat} (v : Option V) (hi : i ∉ io.map (·.1)) : Con K B F io (σ.set i v) H (ρ.set i .dead) := by
  have own_ne : ∀ {j : Nat} {e : Cell}, (ρ.set i .dead)[j]? = some e → isOwn e = true → i ≠ j ∧ ρ[j]? = some e := fun {j e} h o => by
    by_cases q : i = j
    · subst q
      rw [List.getElem?_set] at h
      rw [if_pos rfl] at h
      split at h
      · cases h; cases o
      · cases h
    · rw [List.getElem?_set_ne q] at h
      exact ⟨q, h⟩
  refine ⟨by rw [List.length_set, List.length_set]; exact c.len, c.base, c.frz, fun j e h => ?_, fun j k e f b h1 h2 o1 o2 s1 s2 => ?_, fun p hp => ?_⟩
  · by_cases q : i = j
    · subst q
      have hlt := (List.getElem?_eq_some_iff.mp h).1
      rw [List.length_set] at hlt
      rw [List.getElem?_set_self hlt] at h
      cases h
      exact ⟨v, List.getElem?_set_self (by rw [c.len]; exact hlt), trivial⟩
    · rw [List.getElem?_set_ne q] at h ⊢
      exact c.cell j e h
  · obtain ⟨q1, g1⟩ := own_ne h1 o1
    obtain ⟨q2, g2⟩ := own_ne h2 o2
    rw [List.getElem?_set_ne q1] at s1
    rw [List.getElem?_set_ne q2] at s2
    exact c.sep j k e f b g1 g2 o1 o2 s1 s2
  · have hne : i ≠ p.1 := fun z => hi (List.mem_map.mpr ⟨p, hp, z.symm⟩)
    rw [List.getElem?_set_ne hne]
    exact c.io p hp
def sTry (j i : Nat) (m : FnX) (fa : FA) (fs : FS) : FS := fun ρ => (fa ρ).bind fun p => (m p.1).bind fun b => if b = true then (if i < p.2.length then (fs (p.2.set i .dead)).bind fun o => match o with
  | .rt c ρ' => some (.rt c ρ')
  | _ => none else none) else some (.nx (p.2.set j (.sh .none)))
theorem takes_no {X : Cx} : L2N.Takes X (fun _ _ _ _ => False) := fun u s' h => by
  obtain ⟨_, _, _, _, _, _, _, _, _, _, _, _, _, _, _, _, w⟩ := h
  exact w.elim
section
variable {X : Cx} {L : List Nat} {j i k : Nat} {g y n cl : Str} {ps : List Str} {Cl Bc : Addr} {m : FnX} {e : Expr} {es : List Expr} {ta : List (Addr × Obj) → (Value → Shared → Prop) → TA} {fa : FA} {b₀ : Stmt} {suite : List Stmt} {fs : FS} {ts : Addr → Obj → List (Addr × Obj) → TS} {p pc py np pos pos' pos2 : Pos}
open Classical in
theorem ds_try (hs : X.stack = X.env :: X.outer) (hf : X.env.frame = some X.env.locals) (hN : X.N.Nodup) (hr : Room k X.A) (F : CalX X.prog X.w X.K X.mg X.base k g ps Cl m) (hn : aLen fa ps.length) (hcl : Names X cl (.ref Bc)) (hex : PySem.W.exmOne X.K (.ref Cl) (.ref Bc) = some true)
    (ha : ∀ (pn : List (Addr × Obj)) (xe : Value → Shared → Prop), DA (X.tr pn xe) (e :: es) (ta pn xe) fa)
    (hsu : ∀ (a : Addr) (oe : Obj) (pn : List (Addr × Obj)), L2N.Zn (.ref Cl) none oe → (∃ vs, oe.data = .fields vs) → DSe (X.suite a ((a, oe) :: pn)) L i a (b₀ :: suite) (ts a oe pn) fs)
    (hta : ∀ pn xe, ta pn xe = ta [] X.xe := by exact fun _ _ => rfl) (hts : ∀ a oe pn, ts a oe pn = ts a { cls := .ref Cl, data := .fields #[.none, .none, .none] } [] := by exact fun _ _ _ => rfl)
    (hi : X.N[i]? = some n := by rfl) (hln : X.env.kindOf n = some .local := by rfl) (hj : X.N[j]? = some y := by rfl) (hjl : j ∉ L := by decide) (hil : i ∉ L := by decide) (hy : Loc X.env.scope y := by first | exact Or.inl rfl | exact Or.inr rfl)
    (hsw : swapsWith (.Call (.Name g p) (e :: es) [] pc) (some (.Name y py)) pos.line X.env = pure false := by rfl) (hfy : X.fn y = true ∨ X.env.scope.names.lookup y = some .local := by first | exact .inl rfl | exact .inr rfl)
    (hg : Gl X g := by rfl) (hdb : (g == ("__debug__" : Str)) = false := by decide) (he : starEach (e :: es) X.env = (false, eval e X.env) :: starEach es X.env := by rfl) (hpl : (backTo pc (starEach es X.env)).any (·.1) = false := by rfl) :
    ∃ t, DS X L (.Try [.Assign [.Name y py] (.Call (.Name g p) (e :: es) [] pc) pos] [.ExceptHandler (some (.Name cl np)) (some n) (b₀ :: suite) pos'] [] [] pos2) t (sTry j i m fa fs) := by
  obtain ⟨f, fd, Fn, hm, hk, hb⟩ := F.ex
  refine ⟨_, L2N.ps_try_as (i := i) (c := .ref Bc) (ts := fun a cls d => if cls = .ref Cl ∧ d = none then ts a { cls := .ref Cl, data := .fields #[.none, .none, .none] } [] else fun _ _ _ => False) (Wout := fun _ _ _ _ => False)
    (tb := fun W => tAsg (tCallS (fun vs H Q E => vs.length = ps.length ∧ spX X.K Cl m vs H Q E) (WE W) (ta [] X.xe)) (gName j)) hs hf hN hi hln hcl takes_no (fun W pn xe tk _ => pss_one (ps_set (X := X.tr pn xe) hN hj hy (pe_callS (X := X.tr pn xe) Fn hr hg hm hk hb (fun σ => L2N.passAt tk σ) (hta pn xe ▸ (ha pn xe).pe) hdb he hpl) hsw hfy)) (fun a oe cls d pn hz hfl => ?_), ?_⟩
  · by_cases hc : cls = .ref Cl ∧ d = none
    · rw [if_pos hc]
      obtain ⟨rfl, rfl⟩ := hc
      rw [← hts a oe pn]
      exact (hsu a oe pn hz hfl).pe
    · rw [if_neg hc]
      exact ⟨fun _ _ _ _ _ _ z => z.elim⟩
  · intro B F0 io σ H ρ o Dn hL c h post
    obtain ⟨⟨ds, ρ1⟩, e1, h⟩ := Option.bind_eq_some_iff.mp h
    obtain ⟨b, e2, h⟩ := Option.bind_eq_some_iff.mp h
    refine (ha [] X.xe).se B F0 io σ H ρ ds ρ1 _ c e1 fun F1 H1 vs g1 c1 d1 => ?_
    refine ⟨by rw [d1.length]; exact hn _ _ _ e1, F1, ds, b, c1.frz, d1, e2, fun hb F' H' al => ?_, fun hb F' H' al => ?_⟩
    · rw [hb, if_neg Bool.false_ne_true] at h
      cases h
      exact post F' _ H' (g1.trans (al.gr c1.base)) ((c1.al al).set_sh (by rw [hL]; exact hjl) .non)
    · rw [hb, if_pos rfl] at h
      by_cases hlt : i < ρ1.length
      · have h : (if i < ρ1.length then (fs (ρ1.set i .dead)).bind fun o => match o with | .rt c ρ' => some (.rt c ρ') | _ => none else none) = some o := h
        rw [if_pos hlt] at h
        obtain ⟨o1, e3, h⟩ := Option.bind_eq_some_iff.mp h
        refine ⟨true, hex, fun _ a na => ?_, fun z => by cases z⟩
        show (if Value.ref Cl = .ref Cl ∧ (none : Option Addr) = none then ts a { cls := .ref Cl, data := .fields #[.none, .none, .none] } [] else fun _ _ _ => False) _ _ _
        rw [if_pos ⟨rfl, rfl⟩]
        have c2 := con_dead (c1.al al) (some (.ref a)) (by rw [hL]; exact hil)
        have hσ : HasE i a (σ.set i (some (.ref a))) := List.getElem?_set_self (by rw [c1.len]; exact hlt)
        have hz : L2N.Zn (.ref Cl) none ({ cls := .ref Cl, data := .fields #[.none, .none, .none] } : Obj) := ⟨rfl, rfl, fun vs h => by cases h; rfl⟩
        have se := (hsu a _ [] hz ⟨_, rfl⟩).se
        have gg := g1.trans (al.gr c1.base)
        cases o1 with
        | rt c' ρ' =>
          cases h
          exact se B F' io _ H' _ _ _ hσ hL c2 e3 fun F2 σ2 H2 v g2 c3 r => post F2 σ2 H2 v (gg.trans g2) c3 r
        | nx ρ' => cases h
        | bk ρ' => cases h
        | ct ρ' => cases h
      · have h : (if i < ρ1.length then (fs (ρ1.set i .dead)).bind fun o => match o with | .rt c ρ' => some (.rt c ρ') | _ => none else none) = some o := h
        rw [if_neg hlt] at h
        cases h
end
end L2.Pd

namespace L2.Pd
open PySem PySem.Spec PyProof.Rows L2 L2H HotX
/-! ## a def that is asked of the exception within the suite -/
/-- x(e) hands back b, e the exception of the class Cl that is handled -/
def RunE (P : Program) (w : World) (K : PySem.W.Frag) (mg : Str → Option Value) (base : Heap) (k : Nat) (f : Addr) (fd : FuncData) (v : Str) (Cl : Addr) (b : Bool) : Prop :=
  ∀ (A : Around) (stk : List Env) (s : Shared) (F H : Hp) (args : Args) (u : Value) (Q : VK) (E : XK) (ex : Addr × Obj), RoomH k A → Hot1 A ex → PinOk stk H s ex → L2N.Zn (.ref Cl) none ex.2 → Env0 P w K mg base A stk s H → BindsTo s fd args [(v, u)] → u = .ref ex.1 → Same F H →
    (∀ F' H', Al F H F' H' → Q (.bl b) H') → codeAny (model P w) A (.call (.ref f) args) (CR CX0 stk P w H s Q E) s
structure CalE (P : Program) (w : World) (K : PySem.W.Frag) (mg : Str → Option Value) (base : Heap) (k : Nat) (x v : Str) (Cl : Addr) (b : Bool) : Prop where
  ex : ∃ (f : Addr) (fd : FuncData), RunE P w K mg base k f fd v Cl b ∧ mg x = some (.ref f) ∧ PySem.W.keepIn K (.ref f) = true ∧ Binds K fd [v] []
section
variable {P : Program} {w : World} {K : PySem.W.Frag} {mg : Str → Option Value} {base : Heap}
theorem con_dead0 {F H : Hp} {a : Addr} {N : List Str} (hN : 1 ≤ N.length) (sm : Same F H) : Con K H F [] (L2.start N [.ref a]) H (List.replicate N.length Cell.dead) := by
  have hl : (L2.start N [V.ref a]).length = N.length := by
    unfold L2.start
    simp
    omega
  refine ⟨by rw [hl, List.length_replicate], Same.refl H, sm, fun i c hc => ?_, fun i j c e z h1 _ o1 => ?_, fun p hp => absurd hp List.not_mem_nil⟩
  · have hlt := (List.getElem?_eq_some_iff.mp hc).1
    rw [List.length_replicate] at hlt
    have e := List.eq_of_mem_replicate (List.mem_of_getElem? hc)
    exact ⟨_, List.getElem?_eq_getElem (by rw [hl]; exact hlt), by rw [e]; trivial⟩
  · rw [List.eq_of_mem_replicate (List.mem_of_getElem? h1)] at o1
    cases o1
theorem pde_cal {x v : Str} {st : Stmt} {N : List Str} {k : Nat} {Cl : Addr} {b : Bool} {body : FS} {ρe : En} (S : Src K mg x st [v]) (Sc : FnScope N [v] (defScope st)) (hN : 1 ≤ N.length)
    (hrun : body (List.replicate N.length Cell.dead) = some (.rt (.sh (.bool b)) ρe))
    (hbody : ∀ (f : Addr) (cdv : Value) (A : Around) (stk : List Env) (s : Shared) (H : Hp) (E : XK) (ex : Addr × Obj), Hot1 A ex → L2N.Zn (.ref Cl) none ex.2 → (∃ vs, ex.2.data = .fields vs) →
      ∃ t, DSe (cxH CX0 P w K mg base N x (defScope st) f cdv A stk s H E ex) [] 0 ex.1 (defBody st) t body) : CalE P w K mg base (k + 1) x v Cl b := by
  obtain ⟨f, fd, Fn, hm, hb⟩ := S.ex
  refine ⟨f, fd, ?_, hm, Fn.kp, hb⟩
  obtain ⟨oc, od, kV, doc, pm, an, cdv, ct, osl, rfl, look, code⟩ := Fn.ex
  intro A stk s F H args u Q E ex room hot pin zn en bd hu sm hq
  have stay : ∀ z o, base.get? z = some o → s.heap.get? z = some o := fun z o q => (en.bs z o q).1
  have inK := en.mod.kin.keeps stay
  have nolim := en.mod.nolimit.keeps stay
  have kinds : ∀ y ∈ [(v, u)], (defScope st).names.lookup y.1 = some .local ∨ ((defScope st).names.lookup y.1 = some .cell ∧ ((cellsFrom (s.heap.objs.size + 1) (defScope st).names []).lookup y.1).isSome = true) := fun y hy => by
    rw [List.mem_singleton] at hy
    subst hy
    exact (Sc.par v List.mem_cons_self).imp id fun q => ⟨q, PySem.W.cellsFrom_some _ _ _ (.inl q)⟩
  refine codeAny_call_function room.depth (inK _ _ look) rfl Sc.co Sc.gen rfl (PySem.W.codeRec_of inK code) (bd _ _ _ _ ?_)
  refine wpAny_newFunctionEnv_cells Sc.kind kinds fun env q s1 ic => ?_
  subst q
  refine ⟨nolim.keeps ic.toInCall.keep, codeAny_func ?_⟩
  obtain ⟨t, pe, se⟩ := hbody f cdv A stk s H E ex hot zn (by obtain ⟨vs, q, _⟩ := hot.2; exact ⟨vs, q⟩)
  have I : Inv (cxH CX0 P w K mg base N x (defScope st) f cdv A stk s H E ex) [] (L2.start N [.ref ex.1]) H s1 := inv_startH Sc pin en rfl (.cons hu .nil) ic
  have hσ : HasE 0 ex.1 (L2.start N [.ref ex.1]) := by
    unfold HasE L2.start
    rfl
  have rd := se H F [] _ H _ _ { nx := fun _ H' => Q .non H', rt := Q } hσ rfl (con_dead0 hN sm) hrun fun F' σ' H' z gr cn r => by
    cases r
    exact hq F' H' ⟨gr.sub, cn.base, cn.frz, gr.new⟩
  refine wpAny_mono (pe.run [] s1 _ H _ I rd) (fun fl s' hs => ?_) fun _ _ z => z
  cases fl with
  | ret y =>
    obtain ⟨z, σ2, H2, J, rv, q⟩ := hs
    exact ⟨z, H2, J.os, J.bare, J.base, J.hok, rv, q⟩
  | next =>
    obtain ⟨σ2, H2, J, q⟩ := hs
    exact ⟨V.non, H2, J.os, J.bare, J.base, J.hok, rfl, q⟩
  | brk => obtain ⟨_, _, _, q⟩ := hs; exact q.elim
  | cont => obtain ⟨_, _, _, q⟩ := hs; exact q.elim
end
section
variable {X : Cx} {i k : Nat} {a Cl : Addr} {oe : Obj} {n x v : Str} {b : Bool} {p p1 pos : Pos}
theorem hot_suite {pn : List (Addr × Obj)} (hz : L2N.Zn (.ref Cl) none oe) (hf : ∃ vs, oe.data = .fields vs) : Hot1 (X.suite a ((a, oe) :: pn)).A (a, oe) := by
  obtain ⟨vs, h⟩ := hf
  exact ⟨rfl, vs, h, hz.2.2 vs h⟩
theorem roomH_suite {pn : List (Addr × Obj)} (r : Room k X.A) : RoomH k (X.suite a ((a, oe) :: pn)).A := ⟨r.dp, r.un⟩
def tHotE (i : Nat) (a : Addr) (b : Bool) : TE := fun σ H Q => tCons (tVar i) tNil σ H fun vs H1 => vs = [V.ref a] ∧ ∃ F, Same F H1 ∧ ∀ F' H', Al F H1 F' H' → Q (.bl b) H'
theorem dee_call (F : CalE X.prog X.w X.K X.mg X.base k x v Cl b) (hr : RoomH k X.A) (hz : L2N.Zn (.ref Cl) none oe) (hot : Hot1 X.A (a, oe)) (hp : (a, oe) ∈ X.pn) (hi : X.N[i]? = some n := by rfl) (hg : Gl X x := by rfl) (hdb : (x == ("__debug__" : Str)) = false := by decide)
    (hvi : Vis X.env.scope n := by first | exact Or.inl rfl | exact Or.inr (Or.inl rfl) | exact Or.inr (Or.inr rfl)) (hd : (n == ("__debug__" : Str)) = false := by decide) (hcd : (n == ("__classdict__" : Str)) = false := by decide)
    (s1 : starEach [.Name n p1] X.env = (false, eval (.Name n p1) X.env) :: starEach [] X.env := by rfl) (hpl : (backTo pos (starEach [] X.env)).any (·.1) = false := by rfl) :
    DEe X i a (.Call (.Name x p) [.Name n p1] [] pos) (tHotE i a b) (eKn b) := by
  obtain ⟨f, fd, run, hm, hk, hb⟩ := F.ex
  have arg : PA X [.Name n p1] (tCons (tVar i) tNil) := pa_cons (pe_var hi hvi hd hcd) pa_nil s1
  refine ⟨⟨fun pins s σ H Q I h => ?_⟩, fun B F0 io σ H ρ d ρ' Q hσ c e q => ?_⟩
  · refine wpAny_Call_Name_kw (ld_glob I hg hm ?_ hdb)
    refine PySem.W.callWith_K (h₀ := X.base) I.ok.mod.kin hk (thn (arg.run pos pins s σ H _ I h) fun us s2 ⟨vs, H1, J, r, z, F0, sm, q⟩ => ⟨J.kIn, ?_⟩) s1 hpl
    subst z
    obtain ⟨u0, e0, r0⟩ : ∃ u0, us = [u0] ∧ RelV (V.ref a) u0 := by
      cases r with
      | cons r0 r1 => cases r1; exact ⟨_, rfl, r0⟩
    subst e0
    have at0 := J.pin (a, oe) (List.mem_append_left _ hp)
    have pin : PinOk X.stack H1 s2 (a, oe) := ⟨at0.1, at0.2.1, fun z => (List.mem_cons.mp (J.stkSub a z)).elim at0.2.2.1 at0.2.2.2.1, at0.2.2.2.2⟩
    have bd := hb s2 [u0] J.kIn rfl
    refine wpAny_call (codeAny_mono (run X.A X.stack s2 F0 H1 ⟨[u0], []⟩ u0 Q (fun _ _ _ => False) (a, oe) hr hot pin hz J.env0 bd r0 sm q) fun w3 s3 z => ?_)
    cases w3 with
    | error y => exact (show False from z).elim
    | ok fl =>
      cases fl with
      | ret y => exact J.after z
      | next => exact z.elim
      | brk => exact z.elim
      | cont => exact z.elim
  · cases e
    exact ⟨.ref a, hσ, rfl, F0, c.frz, fun F' H' al => q F' H' _ (al.gr c.base) (c.al al) (.bl b)⟩
end
/-! ## what the written classes tell -/
section
variable {K : PySem.W.Frag} {t : Value} {C : Addr} {T : String} {b : Bool}
theorem kit_self : PySem.W.kitOne K t t = some true := by
  unfold PySem.W.kitOne
  rw [if_pos (beq_self_eq_true t)]
theorem cls_some (h : PySem.W.hasDictIn K C = true) : (PySem.W.clsIn K C).isSome = true := by
  unfold PySem.W.hasDictIn at h
  cases e : PySem.W.clsIn K C with
  | none => rw [e] at h; cases h
  | some _ => rfl
theorem kit_own (h : PySem.W.hasDictIn K C = true) (ht : PySem.W.typeIn K (.ref C) = some (.type "type")) (hs : PySem.W.subIn K t (.ref C) = some b) (hn : (t == .ref C) = false) : PySem.W.kitOne K t (.ref C) = some b := by
  unfold PySem.W.kitOne
  rw [if_neg (by rw [hn]; exact Bool.false_ne_true)]
  show (if ((PySem.W.clsIn K C).isSome && PySem.W.typeIn K (.ref C) == some (.type "type")) = true then PySem.W.subIn K t (.ref C) else none) = _
  rw [cls_some h, ht, if_pos (by simp)]
  exact hs
theorem kit_bt (hs : PySem.W.subIn K (.ref C) (.type T) = some b) (hm : PySem.W.kitMeta T = true := by decide +kernel) : PySem.W.kitOne K (.ref C) (.type T) = some b := by
  unfold PySem.W.kitOne
  rw [if_neg (by exact Bool.false_ne_true)]
  show (if PySem.W.kitMeta T = true then PySem.W.subIn K (.ref C) (.type T) else none) = _
  rw [if_pos hm]
  exact hs
end
end L2.Pd

namespace L2.Pd
open PySem PySem.Spec PyProof.Rows
/-! ## Reckoning: the combinators at a state -/
section
variable {i j n : Nat} {ρ : En} {d : D} {f fa fb fc : FE} {fn gn : FN} {g : D → D → Option D} {g1 : D → Option D} {gN : D → D → Option Cell} {c c2 : FT} {s s2 : FS} {a a2 : FA} {ds : List D} {h : FGs} {tg : FG} {ks : List Nat} {lk : Option Nat} {m : FnS}
@[simp] theorem ev_var : eVar i ρ = (match ρ[i]? with
  | some (.sh d) => some (d, ρ)
  | some (.ol ds) => some (.list ds, ρ.set i (.sh (.list ds)))
  | _ => none) := rfl
@[simp] theorem ev_c : eC d ρ = some (d, ρ) := rfl
@[simp] theorem ev_bin : eBin g fa fb ρ = (fa ρ).bind fun p => (fb p.2).bind fun q => (g p.1 q.1).map fun d => (d, q.2) := rfl
@[simp] theorem ev_binN : eBinN gN fa fb ρ = (fa ρ).bind fun p => (fb p.2).bind fun q => (gN p.1 q.1).map fun d => (d, q.2) := rfl
@[simp] theorem ev_un : eUn g1 fa ρ = (fa ρ).bind fun p => (g1 p.1).map fun d => (d, p.2) := rfl
@[simp] theorem ev_tst : eTst f ρ = (f ρ).bind fun p => (tstD p.1).map fun b => (b, p.2) := rfl
@[simp] theorem ev_tstD {b : Bool} : tstD (.bool b) = some b := rfl
@[simp] theorem ev_tru : eTru f ρ = (f ρ).bind fun p => (truD p.1).map fun b => (b, p.2) := rfl
@[simp] theorem ev_chain {g' : D → D → Option D} : eChain g g' fa fb fc ρ = (fa ρ).bind fun p => (fb p.2).bind fun q => ((g p.1 q.1).bind tstD).bind fun k =>
  if k = true then (fc q.2).bind fun s => (g' q.1 s.1).map fun d => (d, s.2) else some (.bool false, q.2) := rfl
@[simp] theorem ev_and : eAnd c c2 ρ = (c ρ).bind fun p => if p.1 = true then c2 p.2 else some (false, p.2) := rfl
@[simp] theorem ev_or : eOr c c2 ρ = (c ρ).bind fun p => if p.1 = true then some (true, p.2) else c2 p.2 := rfl
@[simp] theorem ev_not : eNot c ρ = (c ρ).map fun p => (!p.1, p.2) := rfl
@[simp] theorem ev_andV : eAndV fa fb ρ = (fa ρ).bind fun p => (truD p.1).bind fun k => if k = true then fb p.2 else some p := rfl
@[simp] theorem ev_orV : eOrV fa fb ρ = (fa ρ).bind fun p => (truD p.1).bind fun k => if k = true then some p else fb p.2 := rfl
@[simp] theorem ev_notV : eNotV fa ρ = (fa ρ).bind fun p => (truD p.1).map fun k => (.bool (!k), p.2) := rfl
@[simp] theorem ev_if : eIf c fa fb ρ = (c ρ).bind fun p => if p.1 = true then fa p.2 else fb p.2 := rfl
@[simp] theorem ev_ifN : eIfN c fn gn ρ = (c ρ).bind fun p => if p.1 = true then fn p.2 else gn p.2 := rfl
@[simp] theorem ev_anil : aNil ρ = some ([], ρ) := rfl
@[simp] theorem ev_acons : aCons f a ρ = (f ρ).bind fun p => (a p.2).map fun q => (p.1 :: q.1, q.2) := rfl
@[simp] theorem ev_tup : eTup a ρ = (a ρ).bind fun p => if p.1.length ≤ sizeLine then some (.tuple p.1, p.2) else none := rfl
@[simp] theorem ev_lst : eLst a ρ = (a ρ).bind fun p => if p.1.length ≤ sizeLine then some (.ol p.1, p.2) else none := rfl
@[simp] theorem ev_frz : eFrz fn ρ = (fn ρ).bind fun p => (frzC p.1).map fun d => (d, p.2) := rfl
@[simp] theorem ev_frzC : frzC (.ol ds) = some (.list ds) := rfl
@[simp] theorem ev_cb {r : List D → Option D} : eCB r a ρ = (a ρ).bind fun p => (r p.1).map fun d => (d, p.2) := rfl
@[simp] theorem ev_cbn {r : List D → Option Cell} : eCBN r a ρ = (a ρ).bind fun p => (r p.1).map fun d => (d, p.2) := rfl
@[simp] theorem ev_call0 : eCall0 m a ρ = (a ρ).bind fun p => (m (p.1.map .sh)).map fun r => (r.1, p.2) := rfl
@[simp] theorem ev_call1 {fr : FR} {i0 : Nat} : eCall1 i0 j m fr ρ = (fr ρ).bind fun p => (p.2[j]?).bind fun c => if isOwn c = true then (m (p.1.map (argC c))).bind fun r => (r.2[i0]?).map fun c' => (r.1, p.2.set j c') else none := rfl
@[simp] theorem ev_rnil : rNil ρ = some ([], ρ) := rfl
@[simp] theorem ev_rcons {r : FR} : rCons f r ρ = (f ρ).bind fun p => (r p.2).map fun q => (some p.1 :: q.1, q.2) := rfl
@[simp] theorem ev_rio {r : FR} : rIo j r ρ = if ownAt ρ j = true then (r ρ).map fun q => (none :: q.1, q.2) else none := rfl
@[simp] theorem ev_argCs {u : Cell} : argC u (some d) = .sh d := rfl
@[simp] theorem ev_argCn {u : Cell} : argC u none = u := rfl
@[simp] theorem ev_retD {k : FC} : eRetD k ρ = (k ρ).bind fun p => (cellD p.1).map fun d => (d, p.2) := rfl
@[simp] theorem ev_retN {k : FC} : eRetN k ρ = (k ρ).bind fun p => (ownC p.1).map fun c => (c, p.2) := rfl
@[simp] theorem ev_cellD : cellD (.sh d) = some d := rfl
@[simp] theorem ev_cellDl : cellD (.ol ds) = some (.list ds) := rfl
@[simp] theorem ev_ownC : ownC (.ol ds) = some (.ol ds) := rfl
@[simp] theorem ev_isOwn1 : isOwn (.ol ds) = true := rfl
@[simp] theorem ev_isOwn2 : isOwn (.sh d) = false := rfl
@[simp] theorem ev_isOwn3 : isOwn .dead = false := rfl
@[simp] theorem ev_ownAt : ownAt ρ i = (match ρ[i]? with | some c => isOwn c | none => false) := rfl
@[simp] theorem ev_seq : sSeq s s2 ρ = (s ρ).bind fun o => match o with
  | .nx ρ' => s2 ρ'
  | o => some o := rfl
@[simp] theorem ev_nx : sNx ρ = some (.nx ρ) := rfl
@[simp] theorem ev_brk : sBrk ρ = some (.bk ρ) := rfl
@[simp] theorem ev_cnt : sCnt ρ = some (.ct ρ) := rfl
@[simp] theorem ev_ret : sRet f ρ = (f ρ).map fun p => .rt (.sh p.1) p.2 := rfl
@[simp] theorem ev_retNw : sRetNew fn ρ = (fn ρ).map fun p => .rt p.1 p.2 := rfl
@[simp] theorem ev_ret0 : sRetN ρ = some (.rt (.sh .none) ρ) := rfl
@[simp] theorem ev_expr : sExpr f ρ = (f ρ).map fun p => .nx p.2 := rfl
@[simp] theorem ev_ifS : sIf c s s2 ρ = (c ρ).bind fun p => if p.1 = true then s p.2 else s2 p.2 := rfl
@[simp] theorem ev_set : sSet i f ρ = (f ρ).map fun p => .nx (p.2.set i (.sh p.1)) := rfl
@[simp] theorem ev_setN : sSetN i fn ρ = (fn ρ).map fun p => .nx (p.2.set i p.1) := rfl
@[simp] theorem ev_gnm : gNm i d ρ = some (ρ.set i (.sh d)) := rfl
@[simp] theorem ev_gnl : gNl [] ρ = some ρ := rfl
@[simp] theorem ev_gcn : gCn tg h (d :: ds) ρ = (tg d ρ).bind (h ds) := rfl
@[simp] theorem ev_gtp : gTp n h (.tuple ds) ρ = if ds.length = n then h ds ρ else none := rfl
@[simp] theorem ev_gtpl : gTp n h (.list ds) ρ = if ds.length = n then h ds ρ else none := rfl
@[simp] theorem ev_sl {fl fh : FO} : eSl f fl fh ρ = (f ρ).bind fun p => (fl p.2).bind fun l => (fh l.2).bind fun h => (dSl p.1 l.1 h.1).map fun d => (d, h.2) := rfl
@[simp] theorem ev_slN {fl fh : FO} : eSlN f fl fh ρ = (f ρ).bind fun p => (fl p.2).bind fun l => (fh l.2).bind fun h => match p.1 with
  | .list ds => some (.ol (cutD ds l.1 h.1), h.2)
  | _ => none := rfl
@[simp] theorem ev_oNone : oNone ρ = some (none, ρ) := rfl
@[simp] theorem ev_oSome : oSome f ρ = (f ρ).bind fun p => (intD p.1).map fun i => (some i, p.2) := rfl
@[simp] theorem dSl_t {lo hi : Option Int} : dSl (.tuple ds) lo hi = some (.tuple (cutD ds lo hi)) := rfl
@[simp] theorem dSl_l {lo hi : Option Int} : dSl (.list ds) lo hi = some (.list (cutD ds lo hi)) := rfl
@[simp] theorem dSl_s {lo hi : Option Int} : dSl (.str x) lo hi = if x.length ≤ sizeLine then some (.str (cutS x lo hi)) else none := rfl
@[simp] theorem dRev_l : dRev (.list ds) = some (.list ds.reverse) := rfl
@[simp] theorem dRev_t : dRev (.tuple ds) = some (.tuple ds.reverse) := rfl
@[simp] theorem dRev_s : dRev (.str x) = if x.length ≤ sizeLine then some (.str (revS x)) else none := rfl
@[simp] theorem ev_revN : eRevN f ρ = (f ρ).bind fun p => match p.1 with
  | .list ds => some (.ol ds.reverse, p.2)
  | _ => none := rfl
@[simp] theorem ev_sm {r : Str → List D → Option D} : eSM r f a ρ = (f ρ).bind fun p => (strD p.1).bind fun z => (a p.2).bind fun q => (r z q.1).map fun d => (d, q.2) := rfl
@[simp] theorem ev_sm0 {r : Str → List D → Option D} : eSM0 r f ρ = (f ρ).bind fun p => (strD p.1).bind fun z => (r z []).map fun d => (d, p.2) := rfl
@[simp] theorem ev_strD : strD (.str x) = some x := rfl
@[simp] theorem ev_lrg {r : FR2} : eLRg r ρ = (r ρ).bind fun p => if rgOk p.1.1 p.1.2 = true then some (.ol (rngD p.1.1 (p.1.2 - p.1.1).toNat), p.2) else none := rfl
@[simp] theorem ev_trg {r : FR2} : eTRg r ρ = (r ρ).bind fun p => if rgOk p.1.1 p.1.2 = true then some (.tuple (rngD p.1.1 (p.1.2 - p.1.1).toNat), p.2) else none := rfl
@[simp] theorem ev_rg3 {fa : FA} : eRg3 fa ρ = (fa ρ).bind fun p => match p.1 with
  | [.int i, .int j, .int c] => if rg3Ok i j c = true then some (.tuple (rngC i c (rg3N i j c)), p.2) else none
  | _ => none := rfl
@[simp] theorem ev_gr1 : gR1 f ρ = (f ρ).bind fun p => (intD p.1).map fun n => ((0, n), p.2) := rfl
@[simp] theorem ev_gr2 : gR2 fa fb ρ = (fa ρ).bind fun p => (fb p.2).bind fun q => (intD p.1).bind fun m => (intD q.1).map fun n => ((m, n), q.2) := rfl
@[simp] theorem ev_tupL : cTuple [.list ds] = some (.tuple ds) := rfl
@[simp] theorem ev_tupT : cTuple [.tuple ds] = some (.tuple ds) := rfl
@[simp] theorem ev_iaddS : dIadd (.str x) (.str y) = if x.length + y.length ≤ sizeLine then some (.str (x ++ y)) else none := rfl
@[simp] theorem ev_get2 {k1 v1 k2 v2 : Str} {fe ff : FE} : eGet2 k1 v1 k2 v2 fe ff ρ = (fe ρ).bind fun p => (ff p.2).bind fun q => (strD p.1).map fun z => (if z = k1 then .str v1 else if z = k2 then .str v2 else q.1, q.2) := rfl
@[simp] theorem ev_mulA {a b : Int} : dMulA (.int a) (.int b) = if mulOk a b = true then some (.int (a * b)) else none := rfl
@[simp] theorem ev_mulAS {b : Int} : dMulA (.str x) (.int b) = if repOk x.length b = true then some (.str (Txt.mul x b)) else none := rfl
@[simp] theorem ev_mulAT {b : Int} : dMulA (.tuple ds) (.int b) = if repOk ds.length b = true then some (.tuple (List.replicate b.toNat ds).flatten) else none := rfl
@[simp] theorem ev_asg : sAsg f tg ρ = (f ρ).bind fun p => (tg p.1 p.2).map .nx := rfl
@[simp] theorem ev_par : sPar i j a ρ = (a ρ).bind fun p => match p.1 with
  | [d, e] => some (.nx ((p.2.set i (.sh d)).set j (.sh e)))
  | _ => none := rfl
@[simp] theorem ev_aug : sAug i g f ρ = (match ρ[i]? with
  | some (.sh d) => (f ρ).bind fun p => (g d p.1).map fun z => .nx (p.2.set i (.sh z))
  | _ => none) := rfl
@[simp] theorem ev_ownL : ownL j ρ = (match ρ[j]? with
  | some (.ol ds) => some ds
  | _ => none) := rfl
@[simp] theorem ev_item {fi fe : FE} : sItem j fi fe ρ = (fe ρ).bind fun p => (ownL j p.2).bind fun _ => (fi p.2).bind fun q => (ownL j q.2).bind fun ds => (intD q.1).bind fun k => (ixN ds.length k).map fun n => .nx (q.2.set j (.ol (ds.set n p.1))) := rfl
@[simp] theorem ev_meth {r : List D → List D → Option (D × List D)} : eMeth j r a ρ = (ownL j ρ).bind fun _ => (a ρ).bind fun p => (ownL j p.2).bind fun ds => (r ds p.1).map fun z => (z.1, p.2.set j (.ol z.2)) := rfl
@[simp] theorem ev_idx {fo : FE} {fa : FA} : eIdx fo fa ρ = (fo ρ).bind fun p => match p.1 with
  | .list ds => (fa p.2).bind fun q => (lIndex ds q.1).map fun z => (z.1, q.2)
  | _ => none := rfl
@[simp] theorem ev_meth0 {r : List D → List D → Option (D × List D)} : eMeth0 j r ρ = (ownL j ρ).bind fun ds => (r ds []).map fun z => (z.1, ρ.set j (.ol z.2)) := rfl
@[simp] theorem ev_for {it : FA} : sFor lk ks it tg s ρ = (it ρ).bind fun p => loopF lk p.1 ks (fun x ρ => (tg x ρ).bind s) p.1 p.2 := rfl
@[simp] theorem ev_isq : iSq f ρ = (f ρ).bind fun p => match p.1 with
  | .list ds => some (ds, p.2)
  | .tuple ds => some (ds, p.2)
  | .str x => some (signsD x, p.2)
  | _ => none := rfl
@[simp] theorem ev_iown : iOwn j ρ = (ownL j ρ).map fun ds => (ds, ρ) := rfl
@[simp] theorem ev_ixOwn {fi : FE} : eIxOwn j fi ρ = (ownL j ρ).bind fun _ => (fi ρ).bind fun q => (ownL j q.2).bind fun ds => (intD q.1).bind fun k => (atI ds k).map fun d => (d, q.2) := rfl
@[simp] theorem ev_lenOwn : eLenOwn j ρ = (ownL j ρ).map fun ds => (.int ds.length, ρ) := rfl
@[simp] theorem ev_intD {z : Int} : intD (.int z) = some z := rfl
@[simp] theorem ev_isi {T : String} : eIsi T f ρ = (f ρ).bind fun p => (kitB (tyN p.1) T).map fun b => (.bool b, p.2) := rfl
@[simp] theorem ev_killn : killL [] ρ = ρ := rfl
@[simp] theorem ev_killc : killL (i :: ks) ρ = killL ks (ρ.set i .dead) := rfl
@[simp] theorem ev_lockn : lockOk none ds ρ = true := rfl
@[simp] theorem ev_cyes : cYes ρ = some (true, ρ) := rfl
end
section
variable {a b : Int} {x y : Str} {ds es : List D}
@[simp] theorem ev_addI : dAddA (.int a) (.int b) = some (.int (a + b)) := rfl
@[simp] theorem ev_addT : dAddA (.tuple ds) (.tuple es) = if ds.length + es.length ≤ sizeLine then some (.tuple (ds ++ es)) else none := rfl
@[simp] theorem ev_addS : dAddA (.str x) (.str y) = if x.length + y.length ≤ sizeLine then some (.str (x ++ y)) else none := rfl
@[simp] theorem ev_addL : dAddA (.list ds) (.list es) = if ds.length + es.length ≤ sizeLine then some (.list (ds ++ es)) else none := rfl
@[simp] theorem ev_iaddI : dIadd (.int a) (.int b) = some (.int (a + b)) := rfl
@[simp] theorem ev_sub : dSub (.int a) (.int b) = some (.int (a - b)) := rfl
@[simp] theorem ev_mul : dMul (.int a) (.int b) = if mulOk a b = true then some (.int (a * b)) else none := rfl
@[simp] theorem ev_fdiv : dFdiv (.int a) (.int b) = if b ≠ 0 ∧ Builtin.divisionGoesByPylong a b = false then some (.int (a.fdiv b)) else none := rfl
@[simp] theorem ev_mod : dMod (.int a) (.int b) = if b ≠ 0 then some (.int (a.fmod b)) else none := rfl
@[simp] theorem ev_neg : dNeg (.int a) = some (.int (-a)) := rfl
@[simp] theorem ev_gtI : bGt (.int a) (.int b) = some (decide (a > b)) := rfl
@[simp] theorem ev_ltI : bLt (.int a) (.int b) = some (decide (a < b)) := rfl
@[simp] theorem ev_geI : bGe (.int a) (.int b) = some (decide (a ≥ b)) := rfl
@[simp] theorem ev_leI : bLe (.int a) (.int b) = some (decide (a ≤ b)) := rfl
theorem ev_eq {d e : D} (h : okD d = true) (h2 : okD e = true) : bEq d e = some (PyData.eqv d e) := by unfold bEq; rw [h, h2]; rfl
@[simp] theorem ev_abs : cAbs [.int a] = some (.int (if a < 0 then -a else a)) := rfl
@[simp] theorem ev_int : cInt [.int a] = some (.int a) := rfl
@[simp] theorem ev_intB {k : Bool} : cInt [.bool k] = some (.int (if k then 1 else 0)) := rfl
@[simp] theorem ev_max2 : cMax2 [.int a, .int b] = some (.int (if b > a then b else a)) := rfl
@[simp] theorem ev_min2 : cMin2 [.int a, .int b] = some (.int (if b < a then b else a)) := rfl
@[simp] theorem ev_ixT : dIx (.tuple ds) (.int a) = atI ds a := rfl
@[simp] theorem ev_ixL : dIx (.list ds) (.int a) = atI ds a := rfl
@[simp] theorem ev_truB {k : Bool} : truD (.bool k) = some k := rfl
end
/-! ### equality of data -/
section
variable {a b : Int} {p q : Bool} {x y : Str} {d e : D} {ds es : List D}
theorem ev_okD : okD d = (d.canLay0 && decide (d.depth ≤ 64)) := rfl
@[simp] theorem ev_eqI : bEq (.int a) (.int b) = some (a == b) := rfl
@[simp] theorem ev_neI : bNe (.int a) (.int b) = some (!(a == b)) := rfl
@[simp] theorem ev_eqB : bEq (.bool p) (.bool q) = some (p == q) := rfl
@[simp] theorem ev_eqNN : bEq .none .none = some true := rfl
@[simp] theorem cl_int : (PyData.int a).canLay0 = true := rfl
@[simp] theorem cl_bool : (PyData.bool p).canLay0 = true := rfl
@[simp] theorem cl_none : PyData.none.canLay0 = true := rfl
@[simp] theorem cl_str : (PyData.str x).canLay0 = PyData.strOk x := rfl
@[simp] theorem cl_tup : (PyData.tuple ds).canLay0 = PyData.canLayAll0 ds := rfl
@[simp] theorem cl_lst : (PyData.list ds).canLay0 = PyData.canLayAll0 ds := rfl
@[simp] theorem cl_nil : PyData.canLayAll0 [] = true := rfl
@[simp] theorem cl_cons : PyData.canLayAll0 (d :: ds) = (d.canLay0 && PyData.canLayAll0 ds) := rfl
@[simp] theorem dp_int' : (PyData.int a).depth = 0 := rfl
@[simp] theorem dp_bool' : (PyData.bool p).depth = 0 := rfl
@[simp] theorem dp_none' : PyData.none.depth = 0 := rfl
@[simp] theorem dp_str' : (PyData.str x).depth = 0 := rfl
@[simp] theorem dp_tup' : (PyData.tuple ds).depth = PyData.depthAll ds + 1 := rfl
@[simp] theorem dp_lst' : (PyData.list ds).depth = PyData.depthAll ds + 1 := rfl
@[simp] theorem dp_nil' : PyData.depthAll [] = 0 := rfl
@[simp] theorem dp_cons' : PyData.depthAll (d :: ds) = max d.depth (PyData.depthAll ds) := rfl
@[simp] theorem eqv_II : PyData.eqv (.int a) (.int b) = (a == b) := rfl
@[simp] theorem eqv_TT : PyData.eqv (.tuple ds) (.tuple es) = PyData.eqvAll ds es := rfl
@[simp] theorem eqv_LL : PyData.eqv (.list ds) (.list es) = PyData.eqvAll ds es := rfl
@[simp] theorem eqv_SS : PyData.eqv (.str x) (.str y) = (x == y) := rfl
@[simp] theorem eqv_NN : PyData.eqv .none .none = true := rfl
@[simp] theorem eqv_BB : PyData.eqv (.bool p) (.bool q) = (p == q) := rfl
@[simp] theorem eqv_nn : PyData.eqvAll [] [] = true := rfl
@[simp] theorem eqv_cc : PyData.eqvAll (d :: ds) (e :: es) = (PyData.eqv d e && PyData.eqvAll ds es) := rfl
@[simp] theorem eqv_nc : PyData.eqvAll [] (e :: es) = false := rfl
@[simp] theorem eqv_cn : PyData.eqvAll (d :: ds) [] = false := rfl
theorem ev_eqR (h : okD d = true) : bEq d d = some true := by
  rw [ev_eq h h, SeqAt.eqv_refl d (by rw [ev_okD, Bool.and_eq_true] at h; exact h.1)]
theorem ev_neR (h : okD d = true) : bNe d d = some false := by
  unfold bNe
  rw [h, SeqAt.eqv_refl d (by rw [ev_okD, Bool.and_eq_true] at h; exact h.1)]
  rfl
@[simp] theorem ev_isn : bIsN d .none = some (isNone d) := rfl
@[simp] theorem ev_nisn : bNotN d .none = some (!isNone d) := rfl
@[simp] theorem nn_i : isNone (.int a) = false := rfl
@[simp] theorem nn_t : isNone (.tuple ds) = false := rfl
@[simp] theorem nn_s : isNone (.str x) = false := rfl
@[simp] theorem nn_n : isNone .none = true := rfl
@[simp] theorem nn_b : isNone (.bool p) = false := rfl
@[simp] theorem nn_l : isNone (.list ds) = false := rfl
@[simp] theorem atI0 {α : Type} {u : α} {r : List α} : atI (u :: r) 0 = some u := atI_nat (j := 0) rfl
@[simp] theorem atI1 {α : Type} {u v : α} {r : List α} : atI (u :: v :: r) 1 = some v := atI_nat (j := 1) rfl
@[simp] theorem atI2 {α : Type} {u v w : α} {r : List α} : atI (u :: v :: w :: r) 2 = some w := atI_nat (j := 2) rfl
@[simp] theorem atI3 {α : Type} {u v w z : α} {r : List α} : atI (u :: v :: w :: z :: r) 3 = some z := atI_nat (j := 3) rfl
@[simp] theorem cLen_l : cLen [.list ds] = some (.int ds.length) := rfl
@[simp] theorem cLen_s : cLen [.str x] = if x.length ≤ sizeLine then some (.int x.length) else none := rfl
@[simp] theorem cLen_t : cLen [.tuple ds] = some (.int ds.length) := rfl
end
/-! ### isinstance -/
@[simp] theorem kit_int_bool {a : Int} : kitB (tyN (.int a)) "bool" = some false := by show kitB "int" "bool" = _; decide +kernel
@[simp] theorem kit_int_int {a : Int} : kitB (tyN (.int a)) "int" = some true := by show kitB "int" "int" = _; decide +kernel
@[simp] theorem kit_int_str {a : Int} : kitB (tyN (.int a)) "str" = some false := by show kitB "int" "str" = _; decide +kernel
@[simp] theorem kit_int_tuple {a : Int} : kitB (tyN (.int a)) "tuple" = some false := by show kitB "int" "tuple" = _; decide +kernel
@[simp] theorem kit_int_list {a : Int} : kitB (tyN (.int a)) "list" = some false := by show kitB "int" "list" = _; decide +kernel
@[simp] theorem kit_bool_bool {a : Bool} : kitB (tyN (.bool a)) "bool" = some true := by show kitB "bool" "bool" = _; decide +kernel
@[simp] theorem kit_bool_int {a : Bool} : kitB (tyN (.bool a)) "int" = some true := by show kitB "bool" "int" = _; decide +kernel
@[simp] theorem kit_bool_str {a : Bool} : kitB (tyN (.bool a)) "str" = some false := by show kitB "bool" "str" = _; decide +kernel
@[simp] theorem kit_bool_tuple {a : Bool} : kitB (tyN (.bool a)) "tuple" = some false := by show kitB "bool" "tuple" = _; decide +kernel
@[simp] theorem kit_bool_list {a : Bool} : kitB (tyN (.bool a)) "list" = some false := by show kitB "bool" "list" = _; decide +kernel
@[simp] theorem kit_str_bool {a : Str} : kitB (tyN (.str a)) "bool" = some false := by show kitB "str" "bool" = _; decide +kernel
@[simp] theorem kit_str_int {a : Str} : kitB (tyN (.str a)) "int" = some false := by show kitB "str" "int" = _; decide +kernel
@[simp] theorem kit_str_str {a : Str} : kitB (tyN (.str a)) "str" = some true := by show kitB "str" "str" = _; decide +kernel
@[simp] theorem kit_str_tuple {a : Str} : kitB (tyN (.str a)) "tuple" = some false := by show kitB "str" "tuple" = _; decide +kernel
@[simp] theorem kit_str_list {a : Str} : kitB (tyN (.str a)) "list" = some false := by show kitB "str" "list" = _; decide +kernel
@[simp] theorem kit_tup_bool {a : List D} : kitB (tyN (.tuple a)) "bool" = some false := by show kitB "tuple" "bool" = _; decide +kernel
@[simp] theorem kit_tup_int {a : List D} : kitB (tyN (.tuple a)) "int" = some false := by show kitB "tuple" "int" = _; decide +kernel
@[simp] theorem kit_tup_str {a : List D} : kitB (tyN (.tuple a)) "str" = some false := by show kitB "tuple" "str" = _; decide +kernel
@[simp] theorem kit_tup_tuple {a : List D} : kitB (tyN (.tuple a)) "tuple" = some true := by show kitB "tuple" "tuple" = _; decide +kernel
@[simp] theorem kit_tup_list {a : List D} : kitB (tyN (.tuple a)) "list" = some false := by show kitB "tuple" "list" = _; decide +kernel
@[simp] theorem kit_non_bool  : kitB (tyN .none) "bool" = some false := by show kitB "NoneType" "bool" = _; decide +kernel
@[simp] theorem kit_non_int  : kitB (tyN .none) "int" = some false := by show kitB "NoneType" "int" = _; decide +kernel
@[simp] theorem kit_non_str  : kitB (tyN .none) "str" = some false := by show kitB "NoneType" "str" = _; decide +kernel
@[simp] theorem kit_non_tuple  : kitB (tyN .none) "tuple" = some false := by show kitB "NoneType" "tuple" = _; decide +kernel
@[simp] theorem kit_non_list  : kitB (tyN .none) "list" = some false := by show kitB "NoneType" "list" = _; decide +kernel
@[simp] theorem kit_lst_bool {a : List D} : kitB (tyN (.list a)) "bool" = some false := by show kitB "list" "bool" = _; decide +kernel
@[simp] theorem kit_lst_int {a : List D} : kitB (tyN (.list a)) "int" = some false := by show kitB "list" "int" = _; decide +kernel
@[simp] theorem kit_lst_str {a : List D} : kitB (tyN (.list a)) "str" = some false := by show kitB "list" "str" = _; decide +kernel
@[simp] theorem kit_lst_tuple {a : List D} : kitB (tyN (.list a)) "tuple" = some false := by show kitB "list" "tuple" = _; decide +kernel
@[simp] theorem kit_lst_list {a : List D} : kitB (tyN (.list a)) "list" = some true := by show kitB "list" "list" = _; decide +kernel
/-! ### a def's call -/
theorem fn_ret0 {n : Nat} {s : FS} {cs : List Cell} {c : Cell} {ρ' : En} (h : s (cs ++ List.replicate (n - cs.length) .dead) = some (.rt c ρ')) : fnSem n [] s cs = some (c, []) := by
  unfold fnSem
  rw [h]
  rfl
theorem fn_nx0 {n : Nat} {s : FS} {cs : List Cell} {ρ' : En} (h : s (cs ++ List.replicate (n - cs.length) .dead) = some (.nx ρ')) : fnSem n [] s cs = some (.sh .none, []) := by
  unfold fnSem
  rw [h]
  rfl
theorem fn_io0 {n : Nat} {ios : List Nat} {s : FS} {cs : List Cell} {c : Cell} {ρ' : En} (h : s (cs ++ List.replicate (n - cs.length) .dead) = some (.rt c ρ')) (hall : ios.all (ownAt ρ') = true) : fnSem n ios s cs = some (c, ρ'.take (keepN ios cs.length)) := by
  unfold fnSem
  rw [h]
  show (if ios.all (ownAt ρ') = true then _ else _) = _
  rw [if_pos hall]
/-! ### ints as data -/
theorem fn_ret {m : FnS} {n : Nat} {s : FS} [i : FnIs m n [] s] {cs : List Cell} {c : Cell} {ρ' : En} (h : s (cs ++ List.replicate (n - cs.length) .dead) = some (.rt c ρ')) : m cs = some (c, []) := by
  rw [i.eq]; exact fn_ret0 h
theorem fn_nx {m : FnS} {n : Nat} {s : FS} [i : FnIs m n [] s] {cs : List Cell} {ρ' : En} (h : s (cs ++ List.replicate (n - cs.length) .dead) = some (.nx ρ')) : m cs = some (.sh .none, []) := by
  rw [i.eq]; exact fn_nx0 h
theorem fn_io {m : FnS} {n : Nat} {ios : List Nat} {s : FS} [i : FnIs m n ios s] {cs out : List Cell} {c : Cell} {ρ' : En} (h : s (cs ++ List.replicate (n - cs.length) .dead) = some (.rt c ρ')) (hall : ios.all (ownAt ρ') = true) (ho : ρ'.take (keepN ios cs.length) = out) : m cs = some (c, out) := by
  rw [i.eq]; exact (fn_io0 h hall).trans (by rw [ho])
def is (ns : List Int) : List D := ns.map .int
@[simp] theorem is_nil : is [] = [] := rfl
@[simp] theorem is_cons {n : Int} {ns : List Int} : is (n :: ns) = .int n :: is ns := rfl
@[simp] theorem is_len {ns : List Int} : (is ns).length = ns.length := List.length_map _
@[simp] theorem is_app {ns ms : List Int} : is (ns ++ ms) = is ns ++ is ms := List.map_append
theorem is_snoc {ns : List Int} {z : Int} : is ns ++ [.int z] = is (ns ++ [z]) := by simp
theorem is_get {ns : List Int} {i : Nat} : (is ns)[i]? = (ns[i]?).map .int := List.getElem?_map
theorem is_set {ns : List Int} {i : Nat} {n : Int} : (is ns).set i (.int n) = is (ns.set i n) := by unfold is; rw [List.map_set]
theorem is_dl {ns : List Int} : (is ns).dropLast = is ns.dropLast := by unfold is; rw [List.map_dropLast]
theorem is_rev {ns : List Int} : (is ns).reverse = is ns.reverse := by unfold is; rw [List.map_reverse]
theorem atI_in {α : Type} {xs : List α} {i : Int} {x : α} (h0 : 0 ≤ i) (h : xs[i.toNat]? = some x) : atI xs i = some x := by
  obtain ⟨n, rfl⟩ := Int.eq_ofNat_of_zero_le h0
  exact atI_nat h
theorem ixN_in {n : Nat} {i : Int} (h0 : 0 ≤ i) (h : i < n) : ixN n i = some i.toNat := by
  unfold ixN
  rw [if_pos h0, if_pos h]
theorem seq_nx {s s2 : FS} {ρ ρ1 : En} (h : s ρ = some (.nx ρ1)) : sSeq s s2 ρ = s2 ρ1 := by rw [ev_seq, h]; rfl
theorem seq_rt {s s2 : FS} {ρ ρ1 : En} {c : Cell} (h : s ρ = some (.rt c ρ1)) : sSeq s s2 ρ = some (.rt c ρ1) := by rw [ev_seq, h]; rfl
theorem seq_bk {s s2 : FS} {ρ ρ1 : En} (h : s ρ = some (.bk ρ1)) : sSeq s s2 ρ = some (.bk ρ1) := by rw [ev_seq, h]; rfl
theorem seq_ct {s s2 : FS} {ρ ρ1 : En} (h : s ρ = some (.ct ρ1)) : sSeq s s2 ρ = some (.ct ρ1) := by rw [ev_seq, h]; rfl
theorem set_nx {i : Nat} {f : FE} {ρ ρ1 : En} {d : D} (h : f ρ = some (d, ρ1)) : sSet i f ρ = some (.nx (ρ1.set i (.sh d))) := by rw [ev_set, h]; rfl
theorem setN_nx {i : Nat} {f : FN} {ρ ρ1 : En} {c : Cell} (h : f ρ = some (c, ρ1)) : sSetN i f ρ = some (.nx (ρ1.set i c)) := by rw [ev_setN, h]; rfl
theorem if_t {c : FT} {s s2 : FS} {ρ ρ1 : En} (h : c ρ = some (true, ρ1)) : sIf c s s2 ρ = s ρ1 := by rw [ev_ifS, h]; rfl
theorem if_f {c : FT} {s s2 : FS} {ρ ρ1 : En} (h : c ρ = some (false, ρ1)) : sIf c s s2 ρ = s2 ρ1 := by rw [ev_ifS, h]; rfl
theorem ret_nx {f : FE} {ρ ρ1 : En} {d : D} (h : f ρ = some (d, ρ1)) : sRet f ρ = some (.rt (.sh d) ρ1) := by rw [ev_ret, h]; rfl
theorem ev_r1 {a : FA} {ρ ρ1 : En} {n : Int} (h : a ρ = some ([.int n], ρ1)) (h0 : 0 ≤ n) (h1 : n < 4611686018427387904) : iR1 a ρ = some ((List.range n.toNat).map (fun k : Nat => PyData.int (k : Int)), ρ1) := by
  unfold iR1
  rw [h]
  show (if -(2 ^ 62) ≤ n ∧ n < 2 ^ 62 then _ else none) = _
  rw [if_pos ⟨by omega, by omega⟩]
  unfold rngD
  simp
theorem ev_r2 {a : FA} {ρ ρ1 : En} {m n : Int} (h : a ρ = some ([.int m, .int n], ρ1)) (h0 : 0 ≤ m) (h1 : n < 4611686018427387904) (h2 : m < 4611686018427387904) (h3 : 0 ≤ n) : iR2 a ρ = some ((List.range (n - m).toNat).map (fun k : Nat => PyData.int (m + (k : Int))), ρ1) := by
  unfold iR2
  rw [h]
  show (if -(2 ^ 62) ≤ m ∧ m < 2 ^ 62 ∧ -(2 ^ 62) ≤ n ∧ n < 2 ^ 62 then _ else none) = _
  rw [if_pos ⟨by omega, by omega, by omega, by omega⟩]
  rfl
theorem for_nx {it : FA} {tg : FG} {s : FS} {ks : List Nat} {lk : Option Nat} {ρ ρ1 : En} {xs : List D} {o : Option Out} (h : it ρ = some (xs, ρ1)) (h2 : loopF lk xs ks (fun x ρ => (tg x ρ).bind s) xs ρ1 = o) : sFor lk ks it tg s ρ = o := by rw [ev_for, h]; exact h2
theorem mulOk_l {a b : Int} (h : a.natAbs < 18446744073709551616) : mulOk a b = true := by simp [mulOk]; exact .inl (.inl (by omega))
theorem mulOk_r {a b : Int} (h : b.natAbs < 18446744073709551616) : mulOk a b = true := by simp [mulOk]; exact .inl (.inr (by omega))
theorem fmod_abs {a b : Int} (h : 0 < b) : (a.fmod b).natAbs < b.natAbs := by
  have := Int.fmod_nonneg_of_pos a h
  have := Int.fmod_lt_of_pos a h
  omega
/-! ### lending -/
section
variable {i j : Nat} {ρ ρ' : En} {f : FE} {c : Cell} {d e : D} {ds : List D} {ns : List Int}
@[simp] theorem ev_bor : eBor j f ρ = (ownL j ρ).bind fun ds => (f (ρ.set j (.sh (.list ds)))).bind fun p => if noL p.1 = true then (lendB j ds ρ p.2).map fun ρ' => (p.1, ρ') else none := rfl
@[simp] theorem ev_borT {f : FT} : eBorT j f ρ = (ownL j ρ).bind fun ds => (f (ρ.set j (.sh (.list ds)))).bind fun p => (lendB j ds ρ p.2).map fun ρ' => (p.1, ρ') := rfl
@[simp] theorem ev_borN {f : FN} : eBorN j f ρ = (ownL j ρ).bind fun ds => (f (ρ.set j (.sh (.list ds)))).bind fun p => if noLC p.1 = true then (lendB j ds ρ p.2).map fun ρ' => (p.1, ρ') else none := rfl
@[simp] theorem ev_lendB : lendB j ds ρ ρ' = if lentOk (ρ'.set j .dead) ρ = true then some (ρ'.set j (.ol ds)) else none := rfl
@[simp] theorem lent_nil : lentOk [] ρ = true := rfl
@[simp] theorem lent_cons {s : Cell} : lentOk (c :: ρ') (s :: ρ) = ((noLC c || (match c, s :: ρ with | .sh d, .sh e :: _ => beqD d e | _, _ => false)) && lentOk ρ' ρ) := rfl
@[simp] theorem noLC_dead : noLC .dead = true := rfl
@[simp] theorem noLC_sh : noLC (.sh d) = noL d := rfl
@[simp] theorem noLC_ol : noLC (.ol ds) = noLs ds := rfl
@[simp] theorem noL_int {z : Int} : noL (.int z) = true := rfl
@[simp] theorem noL_bool {z : Bool} : noL (.bool z) = true := rfl
@[simp] theorem noL_str {z : Str} : noL (.str z) = true := rfl
@[simp] theorem noL_none : noL .none = true := rfl
@[simp] theorem noL_tup : noL (.tuple ds) = noLs ds := rfl
@[simp] theorem noL_lst : noL (.list ds) = false := rfl
@[simp] theorem noLs_nil : noLs [] = true := rfl
@[simp] theorem noLs_cons : noLs (d :: ds) = (noL d && noLs ds) := rfl
@[simp] theorem noLs_is : noLs (is ns) = true := by
  induction ns with
  | nil => rfl
  | cons n r ih => simp [ih]
@[simp] theorem beqDs_is : beqDs (is ns) (is ns) = true := by
  induction ns with
  | nil => rfl
  | cons n r ih => simp [beqDs, beqD, ih]
@[simp] theorem beqD_lst {es : List D} : beqD (.list ds) (.list es) = beqDs ds es := rfl
end
/-! ### loops -/
theorem loop_cons {lk : Option Nat} {xs0 : List D} {ks : List Nat} {b : D → En → Option Out} {x : D} {r : List D} {ρ ρ' : En} (hl : lockOk lk xs0 (killL ks ρ) = true) (h : b x (killL ks ρ) = some (.nx ρ')) : loopF lk xs0 ks b (x :: r) ρ = loopF lk xs0 ks b r ρ' := by
  conv => lhs; unfold loopF
  rw [if_pos hl, h]
  rfl
theorem loop_cont {lk : Option Nat} {xs0 : List D} {ks : List Nat} {b : D → En → Option Out} {x : D} {r : List D} {ρ ρ' : En} (hl : lockOk lk xs0 (killL ks ρ) = true) (h : b x (killL ks ρ) = some (.ct ρ')) : loopF lk xs0 ks b (x :: r) ρ = loopF lk xs0 ks b r ρ' := by
  conv => lhs; unfold loopF
  rw [if_pos hl, h]
  rfl
theorem loop_brk {lk : Option Nat} {xs0 : List D} {ks : List Nat} {b : D → En → Option Out} {x : D} {r : List D} {ρ ρ' : En} (hl : lockOk lk xs0 (killL ks ρ) = true) (h : b x (killL ks ρ) = some (.bk ρ')) : loopF lk xs0 ks b (x :: r) ρ = some (.nx (killL ks ρ')) := by
  conv => lhs; unfold loopF
  rw [if_pos hl, h]
  rfl
theorem loop_rt {lk : Option Nat} {xs0 : List D} {ks : List Nat} {b : D → En → Option Out} {x : D} {r : List D} {ρ ρ' : En} {c : Cell} (hl : lockOk lk xs0 (killL ks ρ) = true) (h : b x (killL ks ρ) = some (.rt c ρ')) : loopF lk xs0 ks b (x :: r) ρ = some (.rt c ρ') := by
  conv => lhs; unfold loopF
  rw [if_pos hl, h]
  rfl
theorem loop_nil {lk : Option Nat} {xs0 : List D} {ks : List Nat} {b : D → En → Option Out} {ρ : En} (hl : lockOk lk xs0 (killL ks ρ) = true) : loopF lk xs0 ks b [] ρ = some (.nx (killL ks ρ)) := by
  unfold loopF
  rw [if_pos hl]
/-- a loop without a lock by an invariant of the states at its head -/
theorem loop_inv {xs0 : List D} {ks : List Nat} {b : D → En → Option Out} (P : List D → En → Prop) (hstep : ∀ x r ρ, P (x :: r) (killL ks ρ) → ∃ ρ', (b x (killL ks ρ) = some (.nx ρ') ∨ b x (killL ks ρ) = some (.ct ρ')) ∧ P r (killL ks ρ')) :
    ∀ (xs : List D) (ρ : En), P xs (killL ks ρ) → ∃ ρ', loopF none xs0 ks b xs ρ = some (.nx ρ') ∧ P [] ρ' := by
  intro xs
  induction xs with
  | nil => exact fun ρ h => ⟨_, loop_nil rfl, h⟩
  | cons x r ih =>
    intro ρ h
    obtain ⟨ρ', h1, h2⟩ := hstep x r ρ h
    obtain ⟨ρ2, h3, h4⟩ := ih ρ' h2
    refine ⟨ρ2, ?_, h4⟩
    rcases h1 with h1 | h1
    · rw [loop_cons rfl h1, h3]
    · rw [loop_cont rfl h1, h3]
/-- the piece goes on, and then .. -/
def nxt (o : Option Out) (Q : En → Prop) : Prop := match o with
  | some (.nx ρ) => Q ρ
  | some (.ct ρ) => Q ρ
  | _ => False
@[simp] theorem nxt_nx {ρ : En} {Q : En → Prop} : nxt (some (.nx ρ)) Q = Q ρ := rfl
@[simp] theorem nxt_ct {ρ : En} {Q : En → Prop} : nxt (some (.ct ρ)) Q = Q ρ := rfl
theorem nxt_elim {o : Option Out} {Q : En → Prop} (h : nxt o Q) : ∃ ρ, (o = some (.nx ρ) ∨ o = some (.ct ρ)) ∧ Q ρ := by
  unfold nxt at h
  split at h
  · exact ⟨_, .inl rfl, h⟩
  · exact ⟨_, .inr rfl, h⟩
  · exact h.elim
/-- the same over typed items -/
theorem loop_invA {α : Type} (inj : α → D) {xs0 : List D} {ks : List Nat} {b : D → En → Option Out} (P : List α → En → Prop) (hstep : ∀ y r ρ, P (y :: r) (killL ks ρ) → ∃ ρ', (b (inj y) (killL ks ρ) = some (.nx ρ') ∨ b (inj y) (killL ks ρ) = some (.ct ρ')) ∧ P r (killL ks ρ')) :
    ∀ (ys : List α) (ρ : En), P ys (killL ks ρ) → ∃ ρ', loopF none xs0 ks b (ys.map inj) ρ = some (.nx ρ') ∧ P [] ρ' := by
  intro ys
  induction ys with
  | nil => exact fun ρ h => ⟨_, loop_nil rfl, h⟩
  | cons y r ih =>
    intro ρ h
    obtain ⟨ρ', h1, h2⟩ := hstep y r ρ h
    obtain ⟨ρ2, h3, h4⟩ := ih ρ' h2
    refine ⟨ρ2, ?_, h4⟩
    rw [List.map_cons]
    rcases h1 with h1 | h1
    · rw [loop_cons rfl h1, h3]
    · rw [loop_cont rfl h1, h3]
theorem loop_invN {α : Type} (inj : α → D) {xs0 : List D} {ks : List Nat} {b : D → En → Option Out} (P : List α → En → Prop) (hstep : ∀ y r ρ, P (y :: r) ρ → nxt (b (inj y) ρ) (fun ρ' => P r (killL ks ρ')))
    (ys : List α) (ρ : En) (h : P ys (killL ks ρ)) : ∃ ρ', loopF none xs0 ks b (ys.map inj) ρ = some (.nx ρ') ∧ P [] ρ' :=
  loop_invA inj P (fun y r ρ h => nxt_elim (hstep y r _ h)) ys ρ h
/-- a loop whose every turn leaves the state at the head as it was: a row of checks -/
theorem loop_same {α : Type} (inj : α → D) {xs0 : List D} {ks : List Nat} {b : D → En → Option Out} {ρ0 : En} (ys : List α) (h : ∀ y ∈ ys, ∃ ρ', (b (inj y) ρ0 = some (.nx ρ') ∨ b (inj y) ρ0 = some (.ct ρ')) ∧ killL ks ρ' = ρ0) :
    ∀ {ρ : En}, killL ks ρ = ρ0 → loopF none xs0 ks b (ys.map inj) ρ = some (.nx ρ0) := by
  induction ys with
  | nil => intro ρ e; rw [List.map_nil, loop_nil rfl, e]
  | cons y r ih =>
    intro ρ e
    obtain ⟨ρ', h1, h2⟩ := h y (List.mem_cons_self ..)
    rw [List.map_cons]
    rcases h1 with h1 | h1
    · rw [loop_cons rfl (by rw [e]; exact h1), ih (fun z hz => h z (List.mem_cons_of_mem _ hz)) h2]
    · rw [loop_cont rfl (by rw [e]; exact h1), ih (fun z hz => h z (List.mem_cons_of_mem _ hz)) h2]
/-! ### comprehensions -/
theorem comp_mapF {α : Type} (inj : α → D) (p : α → Bool) (F : α → D) {xs0 : List D} {vs : List Nat} {g : FG} {c : FT} {e : FE} {ρ0 : En} : ∀ (ys : List α) (acc : List D) (ρ : En), killL vs ρ = ρ0 → acc.length + ys.length ≤ sizeLine →
    (∀ y ∈ ys, ∃ ρ1 ρ2, g (inj y) ρ0 = some ρ1 ∧ c ρ1 = some (p y, ρ2) ∧ (p y = false → killL vs ρ2 = ρ0) ∧ (p y = true → ∃ ρ3, e ρ2 = some (F y, ρ3) ∧ killL vs ρ3 = ρ0)) →
    compG none xs0 vs g (stp c e) (ys.map inj) acc ρ = some (acc ++ (ys.filter p).map F, ρ0) := by
  intro ys
  induction ys with
  | nil =>
    intro acc ρ e0 _ _
    rw [List.map_nil]
    unfold compG
    rw [if_pos ev_lockn, e0]
    simp
  | cons y r ih =>
    intro acc ρ e0 hl h
    rw [List.length_cons] at hl
    obtain ⟨ρ1, ρ2, h1, h2, h3, h4⟩ := h y (List.mem_cons_self ..)
    have hr := fun z hz => h z (List.mem_cons_of_mem _ hz)
    rw [List.map_cons]
    unfold compG
    rw [if_pos ev_lockn, e0, h1]
    show (stp c e acc ρ1).bind _ = _
    unfold stp
    rw [h2]
    show ((if p y = true then _ else _) : Option (List D × En)).bind _ = _
    cases hp : p y with
    | false =>
      rw [if_neg Bool.false_ne_true]
      show compG none xs0 vs g (stp c e) (r.map inj) acc ρ2 = _
      rw [ih acc ρ2 (h3 hp) (by omega) hr, List.filter_cons_of_neg (by rw [hp]; exact Bool.false_ne_true)]
    | true =>
      obtain ⟨ρ3, h5, h6⟩ := h4 hp
      rw [if_pos rfl, h5]
      show ((if acc.length < sizeLine then _ else _) : Option (List D × En)).bind _ = _
      rw [if_pos (by omega)]
      show compG none xs0 vs g (stp c e) (r.map inj) (acc ++ [F y]) ρ3 = _
      rw [ih _ ρ3 h6 (by rw [List.length_append, List.length_singleton]; omega) hr, List.filter_cons_of_pos hp, List.map_cons, List.append_assoc]
      rfl
theorem ev_comp {α : Type} (inj : α → D) (p : α → Bool) (F : α → D) (ys : List α) {vs : List Nat} {it : FA} {g : FG} {c : FT} {e : FE} {ρ ρi ρ0 : En} (hi : it ρ = some (ys.map inj, ρi)) (h0 : killL vs ρi = ρ0) (hl : ys.length ≤ sizeLine)
    (h : ∀ y ∈ ys, ∃ ρ1 ρ2, g (inj y) ρ0 = some ρ1 ∧ c ρ1 = some (p y, ρ2) ∧ (p y = false → killL vs ρ2 = ρ0) ∧ (p y = true → ∃ ρ3, e ρ2 = some (F y, ρ3) ∧ killL vs ρ3 = ρ0)) (hk : killL vs ρ0 = ρ0 := by rfl) :
    eComp none vs it g c e ρ = some (.ol ((ys.filter p).map F), putB vs ρi ρ0) := by
  unfold eComp
  rw [hi]
  show ((compG none (ys.map inj) vs g (stp c e) (ys.map inj) [] ρi).map _) = _
  rw [comp_mapF inj p F ys [] ρi h0 (by rw [List.length_nil]; omega) h]
  show some (_, putB vs ρi (killL vs ρ0)) = _
  rw [hk]
  rfl
theorem ev_compA {α : Type} (inj : α → D) (F : α → D) (ys : List α) {vs : List Nat} {it : FA} {g : FG} {e : FE} {ρ ρi ρ0 : En} (hi : it ρ = some (ys.map inj, ρi)) (h0 : killL vs ρi = ρ0) (hl : ys.length ≤ sizeLine)
    (h : ∀ y ∈ ys, ∃ ρ1 ρ3, g (inj y) ρ0 = some ρ1 ∧ e ρ1 = some (F y, ρ3) ∧ killL vs ρ3 = ρ0) (hk : killL vs ρ0 = ρ0 := by rfl) :
    eComp none vs it g cYes e ρ = some (.ol (ys.map F), putB vs ρi ρ0) := by
  have := ev_comp inj (fun _ => true) F ys (c := cYes) (e := e) (g := g) hi h0 hl (fun y hy => by
    obtain ⟨ρ1, ρ3, h1, h2, h3⟩ := h y hy
    exact ⟨ρ1, ρ1, h1, rfl, fun z => Bool.noConfusion z, fun _ => ⟨ρ3, h2, h3⟩⟩) hk
  rw [this]
  have : ys.filter (fun _ => true) = ys := List.filter_eq_self.mpr fun _ _ => rfl
  rw [this]
theorem while_step {ks : List Nat} {c : FT} {b : FS} {ρ ρ1 : En} {p : Bool × En} {o : Out} (h1 : c (killL ks ρ) = some p) (h2 : p.1 = true) (h3 : b p.2 = some (.nx ρ1)) (h4 : sWhile ks c b ρ1 = some o) : sWhile ks c b ρ = some o := sWhile_step h1 h2 h3 h4
end L2.Pd

namespace L2.Pd
open PySem PySem.Spec PyProof.Rows
/-! ## Sizes of ints; fractions as pairs -/
def Bd (n : Nat) (z : Int) : Prop := z.natAbs < 2 ^ n
theorem two_le {n m : Nat} (h : n ≤ m) : 2 ^ n ≤ 2 ^ m := Nat.pow_le_pow_right (by decide) h
theorem Bd.mono {n m : Nat} {z : Int} (h : Bd n z) (k : n ≤ m) : Bd m z := Nat.lt_of_lt_of_le h (two_le k)
theorem Bd.mul {n m : Nat} {a b : Int} (h : Bd n a) (k : Bd m b) : Bd (n + m) (a * b) := by
  unfold Bd at *
  rw [Int.natAbs_mul, Nat.pow_add]
  exact Nat.mul_lt_mul_of_lt_of_lt h k
theorem Bd.add {n m : Nat} {a b : Int} (h : Bd n a) (k : Bd m b) : Bd (max n m + 1) (a + b) := by
  unfold Bd at *
  have h1 := two_le (Nat.le_max_left n m)
  have h2 := two_le (Nat.le_max_right n m)
  rw [Nat.pow_succ]
  have := Int.natAbs_add_le a b
  omega
theorem Bd.neg {n : Nat} {a : Int} (h : Bd n a) : Bd n (-a) := by unfold Bd at *; rw [Int.natAbs_neg]; exact h
theorem Bd.sub {n m : Nat} {a b : Int} (h : Bd n a) (k : Bd m b) : Bd (max n m + 1) (a - b) := by rw [Int.sub_eq_add_neg]; exact h.add k.neg
theorem Bd.le {n : Nat} {a b : Int} (h : Bd n a) (k : b.natAbs ≤ a.natAbs) : Bd n b := Nat.lt_of_le_of_lt k h
theorem log2_le {x n : Nat} (h : x < 2 ^ n) : x.log2 ≤ n := by
  by_cases h0 : x = 0
  · subst h0; simp
  · exact Nat.le_of_lt ((Nat.log2_lt h0).mpr h)
theorem Bd.mulOk {n m : Nat} {a b : Int} (h : Bd n a) (k : Bd m b) (e : n + m ≤ 100000000) : mulOk a b = true := by
  have h1 := log2_le h
  have h2 := log2_le k
  unfold Pd.mulOk
  rw [Bool.or_eq_true, decide_eq_true_eq]
  right
  omega
theorem noPy {a b : Int} {n : Nat} (h : Bd n b) (e : n ≤ 8999) : Builtin.divisionGoesByPylong a b = false := by
  have h1 := log2_le h
  unfold Builtin.divisionGoesByPylong
  have : ¬ (if (b == 0) = true then 0 else b.natAbs.log2 / 30 + 1) > 300 := by
    split
    · omega
    · omega
  simp [this]
  intro h2
  exfalso
  apply this
  simp
  exact h2
theorem gcd_le_right' {a b : Int} (h : b ≠ 0) : ((Int.gcd a b : Nat) : Int).natAbs ≤ b.natAbs := by
  rw [Int.natAbs_natCast]
  exact Nat.gcd_le_right _ (by omega)
/-- a fraction in lowest terms -/
def Frq (q : Rat) : D := .tuple [.int q.num, .int q.den]
structure BdQ (n : Nat) (q : Rat) : Prop where
  num : Bd n q.num
  den : Bd n q.den
theorem BdQ.mono {n m : Nat} {q : Rat} (h : BdQ n q) (k : n ≤ m) : BdQ m q := ⟨h.num.mono k, h.den.mono k⟩
theorem fr_pos {a b : Int} (hb : 0 < b) : a.fdiv (Int.gcd a b) = (Rat.divInt a b).num ∧ b.fdiv (Int.gcd a b) = (Rat.divInt a b).den := by
  have hg : (0 : Int) ≤ (Int.gcd a b : Nat) := Int.natCast_nonneg _
  rw [Int.fdiv_eq_ediv_of_nonneg _ hg, Int.fdiv_eq_ediv_of_nonneg _ hg, Rat.num_divInt, Rat.den_divInt, if_neg (by omega), Int.sign_eq_one_of_pos hb, Int.one_mul, Int.gcd_comm b a]
  refine ⟨rfl, ?_⟩
  obtain ⟨n, rfl⟩ := Int.eq_ofNat_of_zero_le (Int.le_of_lt hb)
  simp
theorem fr_neg {a b : Int} (hb : b < 0) : a.fdiv (-(Int.gcd a b : Nat)) = (Rat.divInt a b).num ∧ b.fdiv (-(Int.gcd a b : Nat)) = (Rat.divInt a b).den := by
  have := fr_pos (a := -a) (b := -b) (by omega)
  rw [Rat.neg_divInt_neg, Int.gcd_neg, Int.neg_gcd] at this
  rw [← this.1, ← this.2]
  exact ⟨by rw [← Int.neg_fdiv_neg a, Int.neg_neg], by rw [← Int.neg_fdiv_neg b, Int.neg_neg]⟩
theorem bdq_divInt {n : Nat} {a b : Int} (ha : Bd n a) (hb : Bd n b) (h0 : b ≠ 0) : BdQ n (Rat.divInt a b) := by
  constructor
  · refine ha.le ?_
    rw [Rat.num_divInt]
    refine Nat.le_trans (Int.natAbs_ediv_le_natAbs _ _) ?_
    rw [Int.natAbs_mul]
    have : b.sign.natAbs ≤ 1 := by rw [Int.natAbs_sign_of_ne_zero h0]; omega
    calc b.sign.natAbs * a.natAbs ≤ 1 * a.natAbs := Nat.mul_le_mul_right _ this
      _ = a.natAbs := Nat.one_mul _
  · refine hb.le ?_
    rw [Rat.den_divInt, if_neg h0]
    rw [Int.natAbs_natCast]
    exact Nat.div_le_self _ _
theorem Rat.eqd (q : Rat) : q = Rat.divInt q.num q.den := (Rat.num_divInt_den q).symm
theorem den_pos' (q : Rat) : (0 : Int) < q.den := by have := q.den_pos; omega
theorem bdq_mul {n m : Nat} {x y : Rat} (hx : BdQ n x) (hy : BdQ m y) : BdQ (n + m) (x * y) := by
  rw [Rat.eqd x, Rat.eqd y, Rat.divInt_mul_divInt]
  exact bdq_divInt (hx.num.mul hy.num) (hx.den.mul hy.den) (Int.ne_of_gt (Int.mul_pos (den_pos' x) (den_pos' y)))
theorem bdq_add {n m : Nat} {x y : Rat} (hx : BdQ n x) (hy : BdQ m y) : BdQ (n + m + 1) (x + y) := by
  rw [Rat.eqd x, Rat.eqd y, Rat.divInt_add_divInt _ _ (Int.ne_of_gt (den_pos' x)) (Int.ne_of_gt (den_pos' y))]
  exact bdq_divInt (((hx.num.mul hy.den).add (hy.num.mul hx.den)).mono (by omega)) ((hx.den.mul hy.den).mono (by omega)) (Int.ne_of_gt (Int.mul_pos (den_pos' x) (den_pos' y)))
theorem bdq_sub {n m : Nat} {x y : Rat} (hx : BdQ n x) (hy : BdQ m y) : BdQ (n + m + 1) (x - y) := by
  rw [Rat.eqd x, Rat.eqd y, Rat.divInt_sub_divInt _ _ (Int.ne_of_gt (den_pos' x)) (Int.ne_of_gt (den_pos' y))]
  exact bdq_divInt (((hx.num.mul hy.den).sub (hy.num.mul hx.den)).mono (by omega)) ((hx.den.mul hy.den).mono (by omega)) (Int.ne_of_gt (Int.mul_pos (den_pos' x) (den_pos' y)))
theorem bdq_div {n m : Nat} {x y : Rat} (hx : BdQ n x) (hy : BdQ m y) (h0 : y ≠ 0) : BdQ (n + m) (x / y) := by
  have hn : y.num ≠ 0 := fun e => h0 (Rat.num_eq_zero.mp e)
  rw [Rat.div_def, Rat.eqd x, Rat.eqd y, Rat.inv_divInt, Rat.divInt_mul_divInt]
  exact bdq_divInt (hx.num.mul hy.den) (hx.den.mul hy.num) (Int.mul_ne_zero (Int.ne_of_gt (den_pos' x)) hn)
theorem mul_di (x y : Rat) : x * y = Rat.divInt (x.num * y.num) (x.den * y.den) := by
  conv => lhs; rw [Rat.eqd x, Rat.eqd y, Rat.divInt_mul_divInt]
theorem add_di (x y : Rat) : x + y = Rat.divInt (x.num * y.den + y.num * x.den) (x.den * y.den) := by
  conv => lhs; rw [Rat.eqd x, Rat.eqd y, Rat.divInt_add_divInt _ _ (Int.ne_of_gt (den_pos' x)) (Int.ne_of_gt (den_pos' y))]
theorem sub_di (x y : Rat) : x - y = Rat.divInt (x.num * y.den - y.num * x.den) (x.den * y.den) := by
  conv => lhs; rw [Rat.eqd x, Rat.eqd y, Rat.divInt_sub_divInt _ _ (Int.ne_of_gt (den_pos' x)) (Int.ne_of_gt (den_pos' y))]
theorem div_di (x y : Rat) : x / y = Rat.divInt (x.num * y.den) (x.den * y.num) := by
  conv => lhs; rw [Rat.div_def, Rat.eqd x, Rat.eqd y, Rat.inv_divInt, Rat.divInt_mul_divInt]
/-! two bounds: of the number above, of the number below -/
structure BdR (n d : Nat) (q : Rat) : Prop where
  num : Bd n q.num
  den : Bd d q.den
theorem BdR.mono {n m d e : Nat} {q : Rat} (h : BdR n d q) (k : n ≤ m) (l : d ≤ e) : BdR m e q := ⟨h.num.mono k, h.den.mono l⟩
theorem bdr_divInt {n m : Nat} {a b : Int} (ha : Bd n a) (hb : Bd m b) (h0 : b ≠ 0) : BdR n m (Rat.divInt a b) := by
  constructor
  · refine ha.le ?_
    rw [Rat.num_divInt]
    refine Nat.le_trans (Int.natAbs_ediv_le_natAbs _ _) ?_
    rw [Int.natAbs_mul]
    have : b.sign.natAbs ≤ 1 := by rw [Int.natAbs_sign_of_ne_zero h0]; omega
    calc b.sign.natAbs * a.natAbs ≤ 1 * a.natAbs := Nat.mul_le_mul_right _ this
      _ = a.natAbs := Nat.one_mul _
  · refine hb.le ?_
    rw [Rat.den_divInt, if_neg h0]
    rw [Int.natAbs_natCast]
    exact Nat.div_le_self _ _
section
variable {n d m e : Nat} {x y : Rat}
theorem bdr_mul (hx : BdR n d x) (hy : BdR m e y) : BdR (n + m) (d + e) (x * y) := by
  rw [mul_di]
  exact bdr_divInt (hx.num.mul hy.num) (hx.den.mul hy.den) (Int.ne_of_gt (Int.mul_pos (den_pos' x) (den_pos' y)))
theorem bdr_add (hx : BdR n d x) (hy : BdR m e y) : BdR (max (n + e) (m + d) + 1) (d + e) (x + y) := by
  rw [add_di]
  exact bdr_divInt ((hx.num.mul hy.den).add (hy.num.mul hx.den)) (hx.den.mul hy.den) (Int.ne_of_gt (Int.mul_pos (den_pos' x) (den_pos' y)))
theorem bdr_sub (hx : BdR n d x) (hy : BdR m e y) : BdR (max (n + e) (m + d) + 1) (d + e) (x - y) := by
  rw [sub_di]
  exact bdr_divInt ((hx.num.mul hy.den).sub (hy.num.mul hx.den)) (hx.den.mul hy.den) (Int.ne_of_gt (Int.mul_pos (den_pos' x) (den_pos' y)))
theorem bdr_div (hx : BdR n d x) (hy : BdR m e y) (h0 : y ≠ 0) : BdR (n + e) (d + m) (x / y) := by
  have hn : y.num ≠ 0 := fun e => h0 (Rat.num_eq_zero.mp e)
  rw [div_di]
  exact bdr_divInt (hx.num.mul hy.den) (hx.den.mul hy.num) (Int.mul_ne_zero (Int.ne_of_gt (den_pos' x)) hn)
end
end L2.Pd

namespace L2.Pd
open PySem PySem.Spec PyProof.Rows
/-! ## Slices -/
def cutL {α : Type} (xs : List α) (lo hi : Option Int) : List α := (xs.drop (HT.sIx xs.length 0 lo)).take (HT.sIx xs.length xs.length hi - HT.sIx xs.length 0 lo)
theorem sIx_ge {n d : Nat} {v : Int} (h : 0 ≤ v) : HT.sIx n d (some v) = min v.toNat n := by
  show (if v < 0 then (v + (n : Int)).toNat else min v.toNat n) = _
  rw [if_neg (by omega)]
theorem sIx_lt {n d : Nat} {v : Int} (h : v < 0) : HT.sIx n d (some v) = (v + (n : Int)).toNat := by
  show (if v < 0 then (v + (n : Int)).toNat else min v.toNat n) = _
  rw [if_pos h]
section
variable {α β : Type} {xs : List α}
theorem cutL_to {n : Int} (h : 0 ≤ n) : cutL xs none (some n) = xs.take n.toNat := by
  unfold cutL
  rw [HT.sIx_none, sIx_ge h, List.drop_zero, Nat.sub_zero]
  by_cases k : n.toNat ≤ xs.length
  · rw [Nat.min_eq_left k]
  · rw [Nat.min_eq_right (by omega), List.take_length, List.take_of_length_le (by omega)]
theorem cutL_from {n : Int} (h : 0 ≤ n) : cutL xs (some n) none = xs.drop n.toNat := by
  unfold cutL
  rw [HT.sIx_none, sIx_ge h, List.take_of_length_le (by rw [List.length_drop]; omega)]
  by_cases k : n.toNat ≤ xs.length
  · rw [Nat.min_eq_left k]
  · rw [Nat.min_eq_right (by omega), List.drop_length, List.drop_eq_nil_of_le (by omega)]
theorem cutL_mid {m n : Int} (h : 0 ≤ m) (k : 0 ≤ n) : cutL xs (some m) (some n) = (xs.drop m.toNat).take (n.toNat - m.toNat) := by
  unfold cutL
  rw [sIx_ge h, sIx_ge k]
  by_cases q : m.toNat ≤ xs.length
  · rw [Nat.min_eq_left q]
    by_cases z : n.toNat ≤ xs.length
    · rw [Nat.min_eq_left z]
    · rw [Nat.min_eq_right (by omega), List.take_of_length_le (by rw [List.length_drop]; omega), List.take_of_length_le (by rw [List.length_drop]; omega)]
  · rw [Nat.min_eq_right (a := m.toNat) (by omega), List.drop_length, List.drop_eq_nil_of_le (i := m.toNat) (by omega), List.take_nil, List.take_nil]
theorem cutL_all : cutL xs none none = xs := by
  unfold cutL
  rw [HT.sIx_none, HT.sIx_none, List.drop_zero, Nat.sub_zero, List.take_length]
theorem cutL_dl : cutL xs none (some (-1)) = xs.dropLast := by
  unfold cutL
  rw [HT.sIx_none, sIx_lt (by decide), List.drop_zero, Nat.sub_zero, List.dropLast_eq_take]
  congr 1
  omega
theorem cutL_map (f : α → β) (lo hi : Option Int) : cutL (xs.map f) lo hi = (cutL xs lo hi).map f := by
  unfold cutL
  rw [List.length_map, List.map_take, List.map_drop]
end
theorem cutD_eq (ds : List D) (lo hi : Option Int) : cutD ds lo hi = cutL ds lo hi := rfl
theorem cutD_is (ns : List Int) (lo hi : Option Int) : cutD (is ns) lo hi = is (cutL ns lo hi) := by rw [cutD_eq]; exact cutL_map _ _ _
/-! ## Texts as lists of signs -/
def SL (l : List Nat) : Str := ⟨l.toArray⟩
section
variable {l m : List Nat}
@[simp] theorem SL_len : (SL l).length = l.length := by show l.toArray.size = _; rw [List.size_toArray]
@[simp] theorem SL_app : SL l ++ SL m = SL (l ++ m) := by
  show (⟨l.toArray ++ m.toArray⟩ : Str) = ⟨(l ++ m).toArray⟩
  simp
theorem SL_cut (lo hi : Option Int) : cutS (SL l) lo hi = SL (cutL l lo hi) := by
  unfold cutS cutL SL
  have : (⟨l.toArray⟩ : Str).length = l.length := SL_len
  rw [this]
theorem signsD_SL : signsD (SL l) = l.map (fun c => .str (SL [c])) := rfl
theorem SL_inj : SL l = SL m ↔ l = m := by
  constructor
  · intro h
    have : (SL l).cps.toList = (SL m).cps.toList := by rw [h]
    exact this
  · intro h; rw [h]
theorem SL_beq : (SL l == SL m) = decide (l = m) := by
  by_cases h : l = m
  · subst h; rw [decide_eq_true rfl]; exact beq_self_eq_true _
  · rw [decide_eq_false h, beq_eq_false_iff_ne]; exact fun z => h (SL_inj.mp z)
theorem strOk_SL (h : ∀ c ∈ l, c < 0x110000) : PyData.strOk (SL l) = true := by
  unfold PyData.strOk SL
  rw [List.all_toArray, List.all_eq_true]
  intro c hc
  exact decide_eq_true (h c hc)
theorem dIx_SL (h : l.length ≤ 16777216) (i : Int) : dIx (.str (SL l)) (.int i) = (atI l i).map fun c => .str (SL [c]) := by
  show (if (SL l).length ≤ sizeLine then (atI (SL l).cps.toList i).map fun c => PyData.str ⟨#[c]⟩ else none) = _
  rw [SL_len, if_pos (show l.length ≤ sizeLine from h)]
  rfl
@[simp] theorem revS_SL : revS (SL l) = SL l.reverse := by
  unfold revS SL
  simp
theorem bEq_SL (h : PyData.strOk (SL l) = true) (k : PyData.strOk (SL m) = true) : bEq (.str (SL l)) (.str (SL m)) = some (decide (l = m)) := by
  rw [ev_eq (by rw [ev_okD]; simp [h]) (by rw [ev_okD]; simp [k]), eqv_SS, SL_beq]
theorem bNe_SL (h : PyData.strOk (SL l) = true) (k : PyData.strOk (SL m) = true) : bNe (.str (SL l)) (.str (SL m)) = some (!decide (l = m)) := by
  unfold bNe
  rw [ev_okD, ev_okD]
  simp [h, k, SL_beq]
theorem ofString_SL (s : String) : (Str.ofString s) = SL (Str.ofString s).cps.toList := rfl
end
open TL in
theorem joinL_nil : ∀ ls : List (List Nat), joinL [] ls = ls.flatten
  | [] => rfl
  | [p] => by show p = _; simp
  | p :: q :: r => by
    show p ++ ([] ++ joinL [] (q :: r)) = _
    rw [joinL_nil (q :: r), List.nil_append, ← List.flatten_cons]
open TL in
theorem join_SL (ls : List (List Nat)) : Txt.join "" (ls.map SL) = SL ls.flatten := by
  refine ext_tl ?_
  rw [show Txt.join "" (ls.map SL) = Str.join "" (ls.map SL) from StrLaws.glued_eq_join ..]
  rw [tl_join, List.map_map]
  show joinL [] (ls.map fun l => tl (SL l)) = _
  rw [joinL_nil]
  have : ls.map (fun l => tl (SL l)) = ls := by
    conv => rhs; rw [← List.map_id' ls]
    rfl
  rw [this]
  rfl
theorem strsOf_map {α : Type} (f : α → Str) : ∀ l : List α, strsOf (l.map fun a => .str (f a)) = some (l.map f)
  | [] => rfl
  | a :: r => by rw [List.map_cons, strsOf, strsOf_map f r]; rfl
theorem sum_lens (ls : List (List Nat)) : ((ls.map SL).map (·.length)).sum = ls.flatten.length := by
  rw [List.map_map, List.length_flatten]
  refine congrArg List.sum (List.map_congr_left fun l _ => ?_)
  exact SL_len
/-- ''.join of texts -/
theorem sJoin_SL (ls : List (List Nat)) (h : ls.flatten.length ≤ 16777216) : sJoin "" [.list (ls.map fun l => .str (SL l))] = some (.str (SL ls.flatten)) := by
  show (strsOf (ls.map fun l => .str (SL l))).bind (joinS "") = _
  rw [strsOf_map]
  show joinS "" (ls.map SL) = _
  unfold joinS
  have e0 : (Str.ofString "").length = 0 := rfl
  rw [sum_lens, e0, Nat.mul_zero, Nat.add_zero, if_pos h, join_SL]
theorem atI_map {α β : Type} (f : α → β) (xs : List α) (i : Int) : atI (xs.map f) i = (atI xs i).map f := by
  unfold atI
  rw [List.length_map]
  cases h : ixN xs.length i with
  | none => rfl
  | some j => show (xs.map f)[j]? = (xs[j]?).map f; exact List.getElem?_map
theorem atI_lt {α : Type} {xs : List α} {j : Nat} (h : j < xs.length) : atI xs (j : Int) = some xs[j] := atI_nat (List.getElem?_eq_getElem h)
/-! ## range(n, -1, -1) -/
theorem small_dn (n : Nat) (h1 : (n : Int) < 2 ^ 62) : Builtin.Range.small (n : Int) (-1) (-1) = true := PySem.W.small_down (by omega) h1 (by omega) (by omega)
theorem size_dn (n : Nat) : Builtin.Range.rangeSize (n : Int) (-1) (-1) = (n : Int) + 1 := by
  rw [PySem.W.rangeSize_down, if_pos (by omega)]
  omega
theorem rngC_dn (n : Nat) : rngC (n : Int) (-1) (n + 1) = (List.range (n + 1)).map (fun k : Nat => PyData.int ((n : Int) - (k : Int))) := by
  unfold rngC
  refine List.map_congr_left fun k _ => congrArg PyData.int ?_
  rw [Int.mul_neg_one, Int.sub_eq_add_neg]
theorem iR3_some {a : FA} {ρ ρ1 : En} {i j c : Int} (h : a ρ = some ([.int i, .int j, .int c], ρ1)) (h0 : c ≠ 0) (h1 : c.natAbs < 1073741824) (h2 : Builtin.Range.small i j c = true) : iR3 a ρ = some (rngC i c (Builtin.Range.rangeSize i j c).toNat, ρ1) := by
  unfold iR3
  rw [h]
  exact if_pos ⟨h0, h1, h2⟩
theorem ev_r3down {a : FA} {ρ ρ1 : En} {n : Nat} (h : a ρ = some ([.int (n : Int), .int (-1), .int (-1)], ρ1)) (h1 : (n : Int) < 2 ^ 62) : iR3 a ρ = some ((List.range (n + 1)).map (fun k : Nat => PyData.int ((n : Int) - (k : Int))), ρ1) := by
  rw [iR3_some h (by omega) (by omega) (small_dn n h1), size_dn, ← rngC_dn]
  congr 2
theorem range_down (n : Nat) {β : Type} (f : Int → β) : (List.range (n + 1)).map (fun k : Nat => f ((n : Int) - (k : Int))) = f n :: (List.range n).map (fun k : Nat => f ((n : Int) - 1 - (k : Int))) := by
  rw [List.range_succ_eq_map, List.map_cons, List.map_map]
  have h0 : f ((n : Int) - ((0 : Nat) : Int)) = f n := by congr 1
  rw [h0]
  refine congrArg _ (List.map_congr_left fun k _ => ?_)
  show f ((n : Int) - ((k + 1 : Nat) : Int)) = _
  congr 1
  omega
end L2.Pd

namespace L2.Pd
open PySem PySem.Spec PyProof.Rows
/-! ## sorted(ints) -/
def isort (ns : List Int) : List Int := ns.mergeSort (fun a b => decide (a ≤ b))
theorem dataLe_int (a b : Int) : PySem.W.dataLe false id (PyData.int a) (.int b) = decide (a ≤ b) := by
  show (!lexLt itemOrd [.inl b] [.inl a]) = _
  rw [lex_cons]
  show (!(decide (b < a) || (!decide (a < b) && false))) = _
  rw [Bool.and_false, Bool.or_false]
  by_cases h : a ≤ b
  · rw [decide_eq_true h, decide_eq_false (by omega)]; rfl
  · rw [decide_eq_false h, decide_eq_true (by omega)]; rfl
theorem sortD_is (ns : List Int) : sortD (is ns) = is (isort ns) := by
  unfold sortD is isort
  rw [List.map_mergeSort (s := PySem.W.dataLe false id)]
  intro a _ b _
  exact (dataLe_int a b).symm
theorem sortB_is (ns : List Int) : sortB (is ns) = true := by
  have h1 : ∀ d ∈ is ns, ∃ z : Int, d = .int z := fun d hd => by
    obtain ⟨z, _, rfl⟩ := List.mem_map.mp hd
    exact ⟨z, rfl⟩
  unfold sortB alikeB
  rw [Bool.and_eq_true, Bool.and_eq_true, Bool.and_eq_true, Bool.or_eq_true]
  refine ⟨⟨⟨List.all_eq_true.mpr fun d hd => List.all_eq_true.mpr fun e he => ?_, List.all_eq_true.mpr fun d hd => ?_⟩, List.all_eq_true.mpr fun d hd => ?_⟩, .inr (List.all_eq_true.mpr fun d hd => ?_)⟩
  · obtain ⟨z, rfl⟩ := h1 d hd
    obtain ⟨y, rfl⟩ := h1 e he
    rfl
  all_goals (obtain ⟨z, rfl⟩ := h1 d hd; rfl)
@[simp] theorem cSorted_is (ns : List Int) : cSorted [.list (is ns)] = some (.ol (is (isort ns))) := by
  show (if sortB (is ns) = true then some (Cell.ol (sortD (is ns))) else none) = _
  rw [if_pos (sortB_is ns), sortD_is]
theorem isort_perm (ns : List Int) : (isort ns).Perm ns := List.mergeSort_perm ns _
theorem isort_pw (ns : List Int) : (isort ns).Pairwise (· ≤ ·) := by
  have := List.pairwise_mergeSort (le := fun a b : Int => decide (a ≤ b)) (fun a b c h1 h2 => by simp at *; omega) (fun a b => by simp; omega) ns
  refine this.imp fun {a b} h => ?_
  simpa using h
theorem isort_len (ns : List Int) : (isort ns).length = ns.length := (isort_perm ns).length_eq
/-! ## comprehensions that draw -/
theorem compG_cons {xs0 : List D} {vs : List Nat} {g : FG} {st : List D → En → Option (List D × En)} {x : D} {r acc acc' : List D} {ρ ρ1 ρ2 : En} (h1 : g x (killL vs ρ) = some ρ1) (h2 : st acc ρ1 = some (acc', ρ2)) :
    compG none xs0 vs g st (x :: r) acc ρ = compG none xs0 vs g st r acc' ρ2 := by
  rw [compG, if_pos (show lockOk none xs0 (killL vs ρ) = true from rfl), h1]
  show (st acc ρ1).bind _ = _
  rw [h2]
  rfl
theorem stp_yes {c : FT} {e : FE} {acc : List D} {ρ ρ1 ρ2 : En} {d : D} (h1 : c ρ = some (true, ρ1)) (h2 : e ρ1 = some (d, ρ2)) (h3 : acc.length < sizeLine) : stp c e acc ρ = some (acc ++ [d], ρ2) := by
  unfold stp
  rw [h1, Option.bind_some, if_pos (show (true, ρ1).1 = true from rfl), h2, Option.bind_some, if_pos h3]
theorem ev_compS {vs : List Nat} {it : FA} {g : FG} {c : FT} {e : FE} {ρ ρi ρz : En} {xs out : List D} (hi : it ρ = some (xs, ρi)) (h : compG none xs vs g (stp c e) xs [] ρi = some (out, ρz)) : eComp none vs it g c e ρ = some (.ol out, putB vs ρi (killL vs ρz)) := by
  unfold eComp
  rw [hi]
  show ((compG none xs vs g (stp c e) xs [] ρi).map _) = _
  rw [h]
  rfl
theorem ev_compD {α β σ : Type} (inj : α → D) (enc : β → D) (P : β → Prop) (S : σ → En) {vs : List Nat} {it : FA} {g : FG} {e : FE} {ρ ρi : En} {ks : List α} {ds : σ} (hi : it ρ = some (ks.map inj, ρi)) (h0 : killL vs ρi = S ds) (hk : ∀ ds, killL vs (S ds) = S ds)
    (hstep : ∀ (k : α) (ds : σ), k ∈ ks → ∃ (y : β) (ds' : σ) (ρ1 ρ2 : En), P y ∧ g (inj k) (S ds) = some ρ1 ∧ e ρ1 = some (enc y, ρ2) ∧ killL vs ρ2 = S ds') (hl : ks.length ≤ sizeLine) :
    ∃ (ys : List β) (ds' : σ), ys.length = ks.length ∧ (∀ y ∈ ys, P y) ∧ eComp none vs it g cYes e ρ = some (.ol (ys.map enc), putB vs ρi (S ds')) := by
  have lp : ∀ (r : List α) (acc : List D) (ρ : En) (ds : σ), (∀ k ∈ r, k ∈ ks) → acc.length + r.length ≤ sizeLine → killL vs ρ = S ds → ∃ (ys : List β) (ds' : σ) (ρz : En), ys.length = r.length ∧ (∀ y ∈ ys, P y) ∧ killL vs ρz = S ds' ∧
      compG none (ks.map inj) vs g (stp cYes e) (r.map inj) acc ρ = some (acc ++ ys.map enc, ρz) := by
    intro r
    induction r with
    | nil =>
      intro acc ρ ds _ _ h
      refine ⟨[], ds, killL vs ρ, rfl, fun y hy => absurd hy List.not_mem_nil, by rw [h, hk], ?_⟩
      rw [List.map_nil, compG, if_pos (show lockOk none (ks.map inj) (killL vs ρ) = true from rfl), List.map_nil, List.append_nil]
    | cons k r ih =>
      intro acc ρ ds hm hlen h
      rw [List.length_cons] at hlen
      obtain ⟨y, ds1, ρ1, ρ2, hp, hg, he, hkl⟩ := hstep k ds (hm k List.mem_cons_self)
      obtain ⟨ys, ds2, ρz, h1, h2, h3, h4⟩ := ih (acc ++ [enc y]) ρ2 ds1 (fun z hz => hm z (List.mem_cons_of_mem _ hz)) (by rw [List.length_append, List.length_singleton]; omega) hkl
      refine ⟨y :: ys, ds2, ρz, by rw [List.length_cons, h1, List.length_cons], fun z hz => ?_, h3, ?_⟩
      · rcases List.mem_cons.mp hz with rfl | hz
        · exact hp
        · exact h2 z hz
      · rw [List.map_cons, compG_cons (by rw [h]; exact hg) (stp_yes rfl he (by omega)), h4, List.map_cons, List.append_assoc]
        rfl
  obtain ⟨ys, ds', ρz, h1, h2, h3, h4⟩ := lp ks [] ρi ds (fun _ h => h) (by rw [List.length_nil]; omega) h0
  exact ⟨ys, ds', h1, h2, by rw [ev_compS hi h4, h3]; rfl⟩
/-! ## hidden loops -/
theorem for_hx {l : FS} {it : FA} {tg : FG} {s : FS} {ks : List Nat} {lk : Option Nat} {ρ ρ1 : En} {xs : List D} {o : Option Out} (hl : l = sFor lk ks it tg s) (h : it ρ = some (xs, ρ1)) (h2 : loopF lk xs ks (fun x ρ => (tg x ρ).bind s) xs ρ1 = o) : l ρ = o := by rw [hl]; exact for_nx h h2
theorem bind_gnm {i : Nat} {d : D} {ρ : En} {b : FS} : (gNm i d ρ).bind b = b (ρ.set i (.sh d)) := rfl
/-! ## numbers -/
theorem pow2_pos (n : Nat) : (0 : Int) < 2 ^ n := Int.pow_pos (by decide)
theorem bd_pow (n : Nat) : Bd (n + 1) (2 ^ n) := by
  unfold Bd
  rw [Int.natAbs_pow]
  exact Nat.pow_lt_pow_right (by decide) (by omega)
theorem bd_bits {z : Int} {n : Nat} (h : Builtin.Int.intBits z ≤ n) : Bd n z := by
  unfold Builtin.Int.intBits at h
  unfold Bd
  by_cases h0 : z = 0
  · subst h0; exact Nat.two_pow_pos n
  · rw [if_neg (by simpa using h0)] at h
    exact (Nat.log2_lt (by omega)).mp (by omega)
theorem least_of {P : Nat → Prop} : ∀ n, P n → ∃ m, m ≤ n ∧ P m ∧ ∀ k, k < m → ¬ P k := by
  intro n
  induction n using Nat.strongRecOn with
  | _ n ih =>
    intro h
    by_cases q : ∃ k, k < n ∧ P k
    · obtain ⟨k, hk, hp⟩ := q
      obtain ⟨m, h1, h2, h3⟩ := ih k hk hp
      exact ⟨m, by omega, h2, h3⟩
    · exact ⟨n, Nat.le_refl _, h, fun k hk hp => q ⟨k, hk, hp⟩⟩
theorem loop_same' {xs0 : List D} {ks : List Nat} {b : D → En → Option Out} {ρ0 ρ : En} (ys : List D) (h : ∀ y ∈ ys, ∃ ρ', (b y ρ0 = some (.nx ρ') ∨ b y ρ0 = some (.ct ρ')) ∧ killL ks ρ' = ρ0) (e : killL ks ρ = ρ0) : loopF none xs0 ks b ys ρ = some (.nx ρ0) := by
  have := loop_same (fun d : D => d) (xs0 := xs0) ys h e
  rwa [List.map_id'] at this
theorem pick {zs : List Int} {r : Int} (h0 : 0 ≤ r) (h1 : r < zs.length) : ∃ z ∈ zs, atI (is zs) r = some (.int z) := ⟨_, List.getElem_mem _, by
  refine atI_in h0 ?_
  rw [is_get, List.getElem?_eq_getElem (by omega : r.toNat < zs.length)]
  rfl⟩
theorem repOk_ok {n : Nat} {k : Int} (h0 : -(2 ^ 62) ≤ k) (h1 : k < 2 ^ 62) (h : n * k.toNat ≤ 16777216) : repOk n k = true := by
  unfold repOk
  rw [decide_eq_true_eq]
  exact ⟨h0, h1, h⟩
theorem mul_SL (l : List Nat) {n : Int} (h : 0 ≤ n) : Txt.mul (SL l) n = SL (List.replicate n.toNat l).flatten := by
  unfold Txt.mul
  by_cases h1 : n < 1
  · rw [if_pos h1, show n.toNat = 0 by omega]
    rfl
  · rw [if_neg h1]
    have e : ∀ (m : Nat) (acc : List Nat), (List.replicate m (SL l).cps).foldl (· ++ ·) acc.toArray = (acc ++ (List.replicate m l).flatten).toArray := by
      intro m
      induction m with
      | zero => intro acc; simp
      | succ m ih =>
        intro acc
        rw [List.replicate_succ, List.foldl_cons]
        have : acc.toArray ++ (SL l).cps = (acc ++ l).toArray := by unfold SL; simp
        rw [this, ih, List.replicate_succ, List.flatten_cons, List.append_assoc]
    have e0 := e n.toNat []
    by_cases h2 : (n == 1 || (SL l).length == 0) = true
    · rw [if_pos h2]
      rw [Bool.or_eq_true] at h2
      rcases h2 with h2 | h2
      · have : n = 1 := eq_of_beq h2
        subst this
        show SL l = SL (List.replicate 1 l).flatten
        simp
      · have : l = [] := by
          have := eq_of_beq h2
          rw [SL_len] at this
          exact List.eq_nil_of_length_eq_zero this
        subst this
        congr 1
        generalize n.toNat = m
        induction m with
        | zero => rfl
        | succ m ih => rw [List.replicate_succ, List.flatten_cons, ← ih]; rfl
    · rw [if_neg h2]
      unfold SL
      congr 1
/-- a loop that may hand back one thing on the way: a fold that may stop -/
theorem loop_opt {α σ : Type} (inj : α → D) (S : σ → En) (step : α → σ → Option σ) (c : Cell) {xs0 : List D} {ks : List Nat} {b : D → En → Option Out} (P : σ → Prop) (Q : α → Prop)
    (hk : ∀ s, killL ks (S s) = S s)
    (hn : ∀ y s s', P s → Q y → step y s = some s' → P s' ∧ ∃ ρ', (b (inj y) (S s) = some (.nx ρ') ∨ b (inj y) (S s) = some (.ct ρ')) ∧ killL ks ρ' = S s')
    (hr : ∀ y s, P s → Q y → step y s = none → ∃ ρ', b (inj y) (S s) = some (.rt c ρ')) :
    ∀ (ys : List α) (ρ : En) (s : σ), (∀ y ∈ ys, Q y) → P s → killL ks ρ = S s →
      (∀ s', ys.foldlM (fun s y => step y s) s = some s' → P s' ∧ loopF none xs0 ks b (ys.map inj) ρ = some (.nx (S s'))) ∧
      (ys.foldlM (fun s y => step y s) s = none → ∃ ρ', loopF none xs0 ks b (ys.map inj) ρ = some (.rt c ρ')) := by
  intro ys
  induction ys with
  | nil =>
    intro ρ s _ hP e
    refine ⟨fun s' h => ?_, fun h => by cases h⟩
    cases h
    exact ⟨hP, by rw [List.map_nil, loop_nil rfl, e]⟩
  | cons y r ih =>
    intro ρ s hq hP e
    rw [List.foldlM_cons]
    cases hs : step y s with
    | none =>
      obtain ⟨ρ', h⟩ := hr y s hP (hq y List.mem_cons_self) hs
      refine ⟨fun s' h => (by cases h), fun _ => ⟨ρ', ?_⟩⟩
      rw [List.map_cons]
      exact loop_rt rfl (by rw [e]; exact h)
    | some s1 =>
      obtain ⟨hP1, ρ', h, h2⟩ := hn y s s1 hP (hq y List.mem_cons_self) hs
      have hh : loopF none xs0 ks b ((y :: r).map inj) ρ = loopF none xs0 ks b (r.map inj) ρ' := by
        rw [List.map_cons]
        rcases h with h | h
        · exact loop_cons rfl (by rw [e]; exact h)
        · exact loop_cont rfl (by rw [e]; exact h)
      rw [hh]
      exact ih ρ' s1 (fun z hz => hq z (List.mem_cons_of_mem _ hz)) hP1 h2
end L2.Pd

namespace L2.Pd
open PySem PySem.Spec PyProof.Rows
@[simp] theorem ev_par3 {i j l : Nat} {a : FA} {ρ : En} : sPar3 i j l a ρ = (a ρ).bind fun p => match p.1 with
  | [d, e, g] => some (.nx (((p.2.set i (.sh d)).set j (.sh e)).set l (.sh g)))
  | _ => none := rfl
/-! ### comprehensions of two clauses -/
theorem comp2_mapF {α β : Type} (inj : α → D) (inj1 : β → D) (p : α → Bool) (Z : α → List β) (p1 : α → β → Bool) (F : α → β → D) {xs0 : List D} {vs vs1 : List Nat} {it1 : FA} {g g1 : FG} {c c1 : FT} {e : FE} {ρ0 : En} : ∀ (ys : List α) (acc : List D) (ρ : En), killL vs ρ = ρ0 → acc.length + ((ys.filter p).flatMap Z).length ≤ sizeLine →
    (∀ y ∈ ys, ∃ ρ1 ρ2, g (inj y) ρ0 = some ρ1 ∧ c ρ1 = some (p y, ρ2) ∧ (p y = false → killL vs ρ2 = ρ0) ∧ (p y = true → ∃ ρ3 ρh, it1 ρ2 = some ((Z y).map inj1, ρ3) ∧ killL vs1 ρ3 = ρh ∧ killL vs ρh = ρ0 ∧
      ∀ z ∈ Z y, ∃ ρ4 ρ5, g1 (inj1 z) ρh = some ρ4 ∧ c1 ρ4 = some (p1 y z, ρ5) ∧ (p1 y z = false → killL vs1 ρ5 = ρh) ∧ (p1 y z = true → ∃ ρ6, e ρ5 = some (F y z, ρ6) ∧ killL vs1 ρ6 = ρh))) →
    compG none xs0 vs g (stp2 c none vs1 it1 g1 c1 e) (ys.map inj) acc ρ = some (acc ++ (ys.filter p).flatMap (fun y => ((Z y).filter (p1 y)).map (F y)), ρ0) := by
  intro ys
  induction ys with
  | nil =>
    intro acc ρ e0 _ _
    rw [List.map_nil]
    unfold compG
    rw [if_pos ev_lockn, e0]
    simp
  | cons y r ih =>
    intro acc ρ e0 hl h
    obtain ⟨ρ1, ρ2, h1, h2, h3, h4⟩ := h y (List.mem_cons_self ..)
    have hr := fun z hz => h z (List.mem_cons_of_mem _ hz)
    rw [List.map_cons]
    unfold compG
    rw [if_pos ev_lockn, e0, h1]
    show (stp2 c none vs1 it1 g1 c1 e acc ρ1).bind _ = _
    unfold stp2
    rw [h2]
    show ((if p y = true then _ else _) : Option (List D × En)).bind _ = _
    cases hp : p y with
    | false =>
      rw [List.filter_cons_of_neg (by rw [hp]; exact Bool.false_ne_true)] at hl ⊢
      rw [if_neg Bool.false_ne_true]
      show compG none xs0 vs g (stp2 c none vs1 it1 g1 c1 e) (r.map inj) acc ρ2 = _
      rw [ih acc ρ2 (h3 hp) hl hr]
    | true =>
      rw [List.filter_cons_of_pos hp, List.flatMap_cons] at hl
      rw [List.filter_cons_of_pos hp, List.flatMap_cons]
      rw [List.length_append] at hl
      obtain ⟨ρ3, ρh, h5, h6, h7, h8⟩ := h4 hp
      rw [if_pos rfl, h5]
      show ((compG none ((Z y).map inj1) vs1 g1 (stp c1 e) ((Z y).map inj1) acc ρ3)).bind _ = _
      rw [comp_mapF inj1 (p1 y) (F y) (Z y) acc ρ3 h6 (by omega) h8]
      show compG none xs0 vs g (stp2 c none vs1 it1 g1 c1 e) (r.map inj) (acc ++ ((Z y).filter (p1 y)).map (F y)) ρh = _
      have hfl : ((Z y).filter (p1 y)).length ≤ (Z y).length := List.length_filter_le _ _
      rw [ih _ ρh h7 (by rw [List.length_append, List.length_map]; omega) hr, List.append_assoc]
theorem ev_comp2 {α β : Type} (inj : α → D) (inj1 : β → D) (p : α → Bool) (Z : α → List β) (p1 : α → β → Bool) (F : α → β → D) (ys : List α) {vs vs1 : List Nat} {it it1 : FA} {g g1 : FG} {c c1 : FT} {e : FE} {ρ ρi ρ0 : En} (hi : it ρ = some (ys.map inj, ρi)) (h0 : killL vs ρi = ρ0) (hl : ((ys.filter p).flatMap Z).length ≤ sizeLine)
    (h : ∀ y ∈ ys, ∃ ρ1 ρ2, g (inj y) ρ0 = some ρ1 ∧ c ρ1 = some (p y, ρ2) ∧ (p y = false → killL vs ρ2 = ρ0) ∧ (p y = true → ∃ ρ3 ρh, it1 ρ2 = some ((Z y).map inj1, ρ3) ∧ killL vs1 ρ3 = ρh ∧ killL vs ρh = ρ0 ∧
      ∀ z ∈ Z y, ∃ ρ4 ρ5, g1 (inj1 z) ρh = some ρ4 ∧ c1 ρ4 = some (p1 y z, ρ5) ∧ (p1 y z = false → killL vs1 ρ5 = ρh) ∧ (p1 y z = true → ∃ ρ6, e ρ5 = some (F y z, ρ6) ∧ killL vs1 ρ6 = ρh))) (hk : killL vs ρ0 = ρ0 := by rfl) :
    eComp2 none vs it g c none vs1 it1 g1 c1 e ρ = some (.ol ((ys.filter p).flatMap (fun y => ((Z y).filter (p1 y)).map (F y))), putB vs ρi ρ0) := by
  unfold eComp2
  rw [hi]
  show ((compG none (ys.map inj) vs g (stp2 c none vs1 it1 g1 c1 e) (ys.map inj) [] ρi).map _) = _
  rw [comp2_mapF inj inj1 p Z p1 F ys [] ρi h0 (by rw [List.length_nil]; omega) h]
  show some (_, putB vs ρi (killL vs ρ0)) = _
  rw [hk]
  rfl
theorem fil_t {α : Type} (l : List α) : l.filter (fun _ => true) = l := List.filter_eq_self.mpr fun _ _ => rfl
/-- both clauses without tests -/
theorem ev_comp2A {α β : Type} (inj : α → D) (inj1 : β → D) (Z : α → List β) (F : α → β → D) (ys : List α) {vs vs1 : List Nat} {it it1 : FA} {g g1 : FG} {e : FE} {ρ ρi ρ0 : En} (hi : it ρ = some (ys.map inj, ρi)) (h0 : killL vs ρi = ρ0) (hl : (ys.flatMap Z).length ≤ sizeLine)
    (h : ∀ y ∈ ys, ∃ ρ1 ρ3 ρh, g (inj y) ρ0 = some ρ1 ∧ it1 ρ1 = some ((Z y).map inj1, ρ3) ∧ killL vs1 ρ3 = ρh ∧ killL vs ρh = ρ0 ∧
      ∀ z ∈ Z y, ∃ ρ4 ρ6, g1 (inj1 z) ρh = some ρ4 ∧ e ρ4 = some (F y z, ρ6) ∧ killL vs1 ρ6 = ρh) (hk : killL vs ρ0 = ρ0 := by rfl) :
    eComp2 none vs it g cYes none vs1 it1 g1 cYes e ρ = some (.ol (ys.flatMap (fun y => (Z y).map (F y))), putB vs ρi ρ0) := by
  have := ev_comp2 inj inj1 (fun _ => true) Z (fun _ _ => true) F ys (c := cYes) (c1 := cYes) (e := e) (g := g) (g1 := g1) (vs1 := vs1) (it1 := it1) hi h0 (by rw [fil_t]; exact hl) (fun y hy => by
    obtain ⟨ρ1, ρ3, ρh, h1, h2, h3, h4, h5⟩ := h y hy
    exact ⟨ρ1, ρ1, h1, rfl, fun z => Bool.noConfusion z, fun _ => ⟨ρ3, ρh, h2, h3, h4, fun z hz => by
      obtain ⟨ρ4, ρ6, k1, k2, k3⟩ := h5 z hz
      exact ⟨ρ4, ρ4, k1, rfl, fun z => Bool.noConfusion z, fun _ => ⟨ρ6, k2, k3⟩⟩⟩⟩) hk
  rw [this, fil_t]
  congr 3
  refine congrArg (fun f => List.flatMap f ys) (funext fun y => ?_)
  rw [fil_t]
theorem loop_find {α : Type} (inj : α → D) (test : α → Bool) (out : α → Cell) {xs0 : List D} {ks : List Nat} {b : D → En → Option Out} {ρ0 : En} (Q : α → Prop)
    (hy : ∀ y, Q y → test y = true → ∃ ρ', b (inj y) ρ0 = some (.rt (out y) ρ'))
    (hn : ∀ y, Q y → test y = false → ∃ ρ', (b (inj y) ρ0 = some (.nx ρ') ∨ b (inj y) ρ0 = some (.ct ρ')) ∧ killL ks ρ' = ρ0) :
    ∀ (ys : List α) (ρ : En), (∀ y ∈ ys, Q y) → killL ks ρ = ρ0 →
      (∀ y, ys.find? test = some y → ∃ ρ', loopF none xs0 ks b (ys.map inj) ρ = some (.rt (out y) ρ')) ∧
      (ys.find? test = none → loopF none xs0 ks b (ys.map inj) ρ = some (.nx ρ0)) := by
  intro ys
  induction ys with
  | nil => intro ρ _ e; exact ⟨fun y h => (by cases h), fun _ => by rw [List.map_nil, loop_nil rfl, e]⟩
  | cons y r ih =>
    intro ρ hq e
    rw [List.find?_cons, List.map_cons]
    cases ht : test y with
    | true =>
      obtain ⟨ρ', h⟩ := hy y (hq y List.mem_cons_self) ht
      refine ⟨fun z hz => ?_, fun h => (by cases h)⟩
      cases hz
      exact ⟨ρ', loop_rt rfl (by rw [e]; exact h)⟩
    | false =>
      obtain ⟨ρ', h, h2⟩ := hn y (hq y List.mem_cons_self) ht
      have hh : loopF none xs0 ks b (inj y :: r.map inj) ρ = loopF none xs0 ks b (r.map inj) ρ' := by
        rcases h with h | h
        · exact loop_cons rfl (by rw [e]; exact h)
        · exact loop_cont rfl (by rw [e]; exact h)
      rw [hh]
      exact ih ρ' (fun z hz => hq z (List.mem_cons_of_mem _ hz)) h2
theorem loop_findB {α : Type} (inj : α → D) (test : α → Bool) (out : α → En) {xs0 : List D} {ks : List Nat} {b : D → En → Option Out} {ρ0 : En} (Q : α → Prop)
    (hy : ∀ y, Q y → test y = true → ∃ ρ', b (inj y) ρ0 = some (.bk ρ') ∧ killL ks ρ' = out y)
    (hn : ∀ y, Q y → test y = false → ∃ ρ', (b (inj y) ρ0 = some (.nx ρ') ∨ b (inj y) ρ0 = some (.ct ρ')) ∧ killL ks ρ' = ρ0) :
    ∀ (ys : List α) (ρ : En), (∀ y ∈ ys, Q y) → killL ks ρ = ρ0 →
      (∀ y, ys.find? test = some y → loopF none xs0 ks b (ys.map inj) ρ = some (.nx (out y))) ∧
      (ys.find? test = none → loopF none xs0 ks b (ys.map inj) ρ = some (.nx ρ0)) := by
  intro ys
  induction ys with
  | nil => intro ρ _ e; exact ⟨fun y h => (by cases h), fun _ => by rw [List.map_nil, loop_nil rfl, e]⟩
  | cons y r ih =>
    intro ρ hq e
    rw [List.find?_cons, List.map_cons]
    cases ht : test y with
    | true =>
      obtain ⟨ρ', h, h2⟩ := hy y (hq y List.mem_cons_self) ht
      refine ⟨fun z hz => ?_, fun h => (by cases h)⟩
      cases hz
      exact (loop_brk rfl (by rw [e]; exact h)).trans (by rw [h2])
    | false =>
      obtain ⟨ρ', h, h2⟩ := hn y (hq y List.mem_cons_self) ht
      have hh : loopF none xs0 ks b (inj y :: r.map inj) ρ = loopF none xs0 ks b (r.map inj) ρ' := by
        rcases h with h | h
        · exact loop_cons rfl (by rw [e]; exact h)
        · exact loop_cont rfl (by rw [e]; exact h)
      rw [hh]
      exact ih ρ' (fun z hz => hq z (List.mem_cons_of_mem _ hz)) h2
/-- a loop that folds -/
theorem loop_fold {α σ : Type} (inj : α → D) (S : σ → En) (step : σ → α → σ) {xs0 : List D} {ks : List Nat} {b : D → En → Option Out} (P : σ → Prop) (Q : α → Prop)
    (h : ∀ y s, Q y → P s → P (step s y) ∧ ∃ ρ', (b (inj y) (S s) = some (.nx ρ') ∨ b (inj y) (S s) = some (.ct ρ')) ∧ killL ks ρ' = S (step s y)) :
    ∀ (ys : List α) (ρ : En) (s : σ), (∀ y ∈ ys, Q y) → P s → killL ks ρ = S s → P (ys.foldl step s) ∧ loopF none xs0 ks b (ys.map inj) ρ = some (.nx (S (ys.foldl step s))) := by
  intro ys
  induction ys with
  | nil => exact fun ρ s _ hP e => ⟨hP, by rw [List.map_nil, loop_nil rfl, e]; rfl⟩
  | cons y r ih =>
    intro ρ s hq hP e
    obtain ⟨hP1, ρ', h1, h2⟩ := h y s (hq y List.mem_cons_self) hP
    obtain ⟨h3, h4⟩ := ih ρ' _ (fun z hz => hq z (List.mem_cons_of_mem _ hz)) hP1 h2
    refine ⟨h3, ?_⟩
    rw [List.map_cons]
    rcases h1 with h1 | h1
    · rw [loop_cons rfl (by rw [e]; exact h1), h4]; rfl
    · rw [loop_cont rfl (by rw [e]; exact h1), h4]; rfl
/-- a loop that gathers -/
theorem loop_acc {α : Type} (inj : α → D) (S : List D → En) (p : α → Bool) (F : α → D) {xs0 : List D} {ks : List Nat} {b : D → En → Option Out} (N : Nat) (Q : α → Prop)
    (h : ∀ y acc, Q y → acc.length < N → ∃ ρ', (b (inj y) (S acc) = some (.nx ρ') ∨ b (inj y) (S acc) = some (.ct ρ')) ∧ killL ks ρ' = S (if p y = true then acc ++ [F y] else acc)) :
    ∀ (ys : List α) (acc : List D) (ρ : En), (∀ y ∈ ys, Q y) → acc.length + ys.length ≤ N → killL ks ρ = S acc → loopF none xs0 ks b (ys.map inj) ρ = some (.nx (S (acc ++ (ys.filter p).map F))) := by
  intro ys
  induction ys with
  | nil => exact fun acc ρ _ _ e => by rw [List.map_nil, loop_nil rfl, e, List.filter_nil, List.map_nil, List.append_nil]
  | cons y r ih =>
    intro acc ρ hq hl e
    rw [List.length_cons] at hl
    obtain ⟨ρ', h1, h2⟩ := h y acc (hq y List.mem_cons_self) (by omega)
    have h4 := ih _ ρ' (fun z hz => hq z (List.mem_cons_of_mem _ hz)) (by
      split
      · rw [List.length_append, List.length_singleton]; omega
      · omega) h2
    have e2 : (if p y = true then acc ++ [F y] else acc) ++ (r.filter p).map F = acc ++ ((y :: r).filter p).map F := by
      by_cases hp : p y = true
      · rw [if_pos hp, List.filter_cons_of_pos hp, List.map_cons, List.append_assoc]; rfl
      · rw [if_neg hp, List.filter_cons_of_neg hp]
    rw [e2] at h4
    rw [List.map_cons]
    rcases h1 with h1 | h1
    · rw [loop_cons rfl (by rw [e]; exact h1), h4]
    · rw [loop_cont rfl (by rw [e]; exact h1), h4]
end L2.Pd

namespace L2.G
open PySem PySem.Spec PyProof.Rows L2 L2.Pd

noncomputable section
def topS (i : Nat) : Stmt := PySem.Challenge.pw_paperkeep_k57_whole_one_base_of_each_lat.main.body.getD i (.Pass ⟨0, 0, 0, 0⟩)
section
variable {P : Program} {w : World} {K : PySem.W.Frag} {mg : Str → Option Value} {base : Heap}
/-! ### _law_draws -/
abbrev t__law_draws : Stmt := topS 15
theorem sc__law_draws : FnScope ["script", "many", "cells", "rest", "draws", "k", "at", "once", "cell"] ["script", "many"] (defScope t__law_draws) := ⟨rfl, rfl, rfl, by decide +kernel, rfl, by decide +kernel, by decide +kernel⟩
def kb__law_draws_1 : FN := eComp none [8] (iSq (eVar 0)) (gNm 8) (cYes) (eCB cInt (aCons (eVar 8) (aNil)))
def k__law_draws_1 : FN := hid (kb__law_draws_1)
theorem kk__law_draws_1 : k__law_draws_1 = eComp none [8] (iSq (eVar 0)) (gNm 8) (cYes) (eCB cInt (aCons (eVar 8) (aNil))) := hid_eq _
def b__law_draws_1 : FS := sSeq (sSet 6 (eBin dMod (eVar 5) (eCB cLen (aCons (eVar 2) (aNil)))))
  (sIf (eTst (eBin (fun x y => (bGe x y).map .bool) (eBin dIx (eVar 2) (eVar 6)) (eBin dPow (eC (.int 10)) (eC (.int 18))))) (sSeq (sExpr (eMeth 4 lAppend (aCons (eBin dMod (eCB cInt (aCons (eIxOwn 3 (eVar 6)) (aNil))) (eC (.int 1000))) (aNil))))
  (sItem 3 (eVar 6) (eBin dFdiv (eIxOwn 3 (eVar 6)) (eC (.int 1000))))) (sSeq (sSet 7 (eBin dMod (eCB cInt (aCons (eBin dAddA (eBin dAddA (eBin dMulA (eBin dIx (eVar 2) (eVar 6)) (eC (.int 48271))) (eBin dMulA (eVar 5) (eC (.int 69621)))) (eC (.int 11))) (aNil))) (eC (.int 2147483647))))
  (sExpr (eMeth 4 lAppend (aCons (eBin dMod (eCB cInt (aCons (eBin dAddA (eBin dAddA (eBin dMulA (eVar 7) (eVar 7)) (eBin dMulA (eC (.int 3)) (eVar 7))) (eVar 5)) (aNil))) (eC (.int 1000003))) (aNil))))))
def lb__law_draws_1 : FS := sFor none [5, 6, 7] (iR1 (aCons (eVar 1) (aNil))) (gNm 5) b__law_draws_1
def l__law_draws_1 : FS := hid (lb__law_draws_1)
theorem ll__law_draws_1 : l__law_draws_1 = sFor none [5, 6, 7] (iR1 (aCons (eVar 1) (aNil))) (gNm 5) b__law_draws_1 := hid_eq _
def s__law_draws : FS := sSeq (sSetN 2 (k__law_draws_1))
  (sSeq (sIf (eTst (eBin (fun x y => (bEq x y).map .bool) (eLenOwn 2) (eC (.int 0)))) (sExpr (eMeth 2 lAppend (aCons (eC (.int 0)) (aNil)))) (sNx))
  (sSeq (sSetN 3 (eCBN cList (aCons (eVar 2) (aNil))))
  (sSeq (sSetN 4 (eLst (aNil)))
  (sSeq (l__law_draws_1)
  (sSeq (sExpr (eMeth0 4 lReverse))
  (sRetOwn 4))))))
def mb__law_draws : FnS := fnSem 9 [] s__law_draws
def m__law_draws : FnS := hid mb__law_draws
theorem mm__law_draws : m__law_draws = fnSem 9 [] s__law_draws := hid_eq _
instance : FnIs m__law_draws 9 [] s__law_draws := ⟨mm__law_draws⟩
theorem ok__law_draws (S : Src K mg "_law_draws" t__law_draws ["script", "many"]) (z_int : mg "int" = none) (z_len : mg "len" = none) (z_list : mg "list" = none) (z_range : mg "range" = none) : Cal P w K mg base 1 "_law_draws" ["script", "many"] [] m__law_draws := by
  rw [mm__law_draws]
  exact pd_cal (k := 0) [] S sc__law_draws rfl (body := s__law_draws) (fun f cdv A outer s H E hr => ⟨_, dss_cons (ds_hidN (kk__law_draws_1) (ds_setCompNX rfl sc__law_draws.nd (di_sq (de_var 0)) (own := [("cell", 8)]) (blkOk_by (N := ["script", "many", "cells", "rest", "draws", "k", "at", "once", "cell"]) (sc := defScope t__law_draws) (by decide +kernel)) (fun s H C cl fp => dg_name 8 sc__law_draws.nd) (fun s H C cl fp => dts_nil) (fun s H C cl fp => de_callTy call_intD a_int z_int (da_cons (de_var 8) (da_nil)))))
  (dss_cons (ds_if (dt_cmp (op_eqB (hu_of' hr)) v_dat (de_lenOwn 2 z_len) (de_int)) (dss_one (ds_expr (de_lm (j := 2) PySem.F.slot_list_append PySem.F.type_list_append mt_append l_append (da_cons (de_int) (da_nil))))) (dss_nil))
  (dss_cons (ds_setN sc__law_draws.nd (dn_callTy call_list_of a_list z_list (da_cons (de_var 2) (da_nil))) (i := 3))
  (dss_cons (ds_setN sc__law_draws.nd (dn_lst (da_nil)) (i := 4))
  (dss_cons (ds_hid (ll__law_draws_1) (ds_for [5, 6, 7] PassesOwn.never rfl (di_range1 (da_cons (de_var 1) (da_nil)) z_range) (dg_name 5 sc__law_draws.nd) (dss_cons (ds_set sc__law_draws.nd (de_bin op_modN v_mod (de_var 5) (de_callB call_len a_len z_len (da_cons (de_var 2) (da_nil)))) (i := 6))
  (dss_one (ds_if (dt_cmp (op_geB (hu_of' hr)) v_dat (de_ix (de_var 2) (de_var 6)) (de_bin op_powD v_pow (de_int) (de_int))) (dss_cons (ds_expr (de_lm (j := 4) PySem.F.slot_list_append PySem.F.type_list_append mt_append l_append (da_cons (de_bin op_modN v_mod (de_callTy call_intD a_int z_int (da_cons (de_ixOwn 3 (de_var 6)) (da_nil))) (de_int)) (da_nil))))
  (dss_one (ds_item (j := 3) (de_bin op_fdivD v_fdiv (de_ixOwn 3 (de_var 6)) (de_int)) (de_var 6)))) (dss_cons (ds_set sc__law_draws.nd (de_bin op_modN v_mod (de_callTy call_intD a_int z_int (da_cons (de_bin op_addA v_addA (de_bin op_addA v_addA (de_bin op_mulA v_mulA (de_ix (de_var 2) (de_var 6)) (de_int)) (de_bin op_mulA v_mulA (de_var 5) (de_int))) (de_int)) (da_nil))) (de_int)) (i := 7))
  (dss_one (ds_expr (de_lm (j := 4) PySem.F.slot_list_append PySem.F.type_list_append mt_append l_append (da_cons (de_bin op_modN v_mod (de_callTy call_intD a_int z_int (da_cons (de_bin op_addA v_addA (de_bin op_addA v_addA (de_bin op_mulA v_mulA (de_var 7) (de_var 7)) (de_bin op_mulA v_mulA (de_int) (de_var 7))) (de_var 5)) (da_nil))) (de_int)) (da_nil)))))))))))
  (dss_cons (ds_expr (de_lm0 (j := 4) PySem.F.slot_list_reverse PySem.F.type_list_reverse mt_reverse l_reverse))
  (dss_one (ds_retOwn 4)))))))⟩)
/-! ### _law_take -/
abbrev t__law_take : Stmt := topS 16
theorem sc__law_take : FnScope ["draws", "many"] ["draws", "many"] (defScope t__law_take) := ⟨rfl, rfl, rfl, by decide +kernel, rfl, by decide +kernel, by decide +kernel⟩
def s__law_take : FS := sSeq (sIf (eTst (eBin (fun x y => (bEq x y).map .bool) (eLenOwn 0) (eC (.int 0)))) (sRet (eC (.int 0))) (sNx))
  (sRet (eBin dMod (eCB cInt (aCons (eMeth0 0 lPop) (aNil))) (eVar 1)))
def mb__law_take : FnS := fnSem 2 [0] s__law_take
def m__law_take : FnS := hid mb__law_take
theorem mm__law_take : m__law_take = fnSem 2 [0] s__law_take := hid_eq _
instance : FnIs m__law_take 2 [0] s__law_take := ⟨mm__law_take⟩
theorem ok__law_take (S : Src K mg "_law_take" t__law_take ["draws", "many"]) (z_int : mg "int" = none) (z_len : mg "len" = none) : Cal P w K mg base 1 "_law_take" ["draws", "many"] [0] m__law_take := by
  rw [mm__law_take]
  exact pd_cal (k := 0) [0] S sc__law_take rfl (body := s__law_take) (fun f cdv A outer s H E hr => ⟨_, dss_cons (ds_if (dt_cmp (op_eqB (hu_of' hr)) v_dat (de_lenOwn 0 z_len) (de_int)) (dss_one (ds_ret (de_int))) (dss_nil))
  (dss_one (ds_ret (de_bin op_modN v_mod (de_callTy call_intD a_int z_int (da_cons (de_lm0 (j := 0) PySem.F.slot_list_pop PySem.F.type_list_pop mt_pop l_pop) (da_nil))) (de_var 1))))⟩)
/-! ### _law_divisor -/
abbrev t__law_divisor : Stmt := topS 19
theorem sc__law_divisor : FnScope ["one", "other", "k", "later"] ["one", "other"] (defScope t__law_divisor) := ⟨rfl, rfl, rfl, by decide +kernel, rfl, by decide +kernel, by decide +kernel⟩
def b__law_divisor_1 : FS := sSeq (sIf (eTst (eBin (fun x y => (bEq x y).map .bool) (eVar 1) (eC (.int 0)))) (sBrk) (sNx))
  (sSeq (sSet 3 (eBin dMod (eCB cInt (aCons (eVar 0) (aNil))) (eVar 1)))
  (sSeq (sSet 0 (eVar 1))
  (sSet 1 (eVar 3))))
def lb__law_divisor_1 : FS := sFor none [2, 3] (iR1 (aCons (eC (.int 800)) (aNil))) (gNm 2) b__law_divisor_1
def l__law_divisor_1 : FS := hid (lb__law_divisor_1)
theorem ll__law_divisor_1 : l__law_divisor_1 = sFor none [2, 3] (iR1 (aCons (eC (.int 800)) (aNil))) (gNm 2) b__law_divisor_1 := hid_eq _
def s__law_divisor : FS := sSeq (sSet 0 (eCB cAbs (aCons (eVar 0) (aNil))))
  (sSeq (sSet 1 (eCB cAbs (aCons (eVar 1) (aNil))))
  (sSeq (l__law_divisor_1)
  (sRet (eVar 0))))
def mb__law_divisor : FnS := fnSem 4 [] s__law_divisor
def m__law_divisor : FnS := hid mb__law_divisor
theorem mm__law_divisor : m__law_divisor = fnSem 4 [] s__law_divisor := hid_eq _
instance : FnIs m__law_divisor 4 [] s__law_divisor := ⟨mm__law_divisor⟩
theorem ok__law_divisor (S : Src K mg "_law_divisor" t__law_divisor ["one", "other"]) (z_abs : mg "abs" = none) (z_int : mg "int" = none) (z_range : mg "range" = none) : Cal P w K mg base 1 "_law_divisor" ["one", "other"] [] m__law_divisor := by
  rw [mm__law_divisor]
  exact pd_cal (k := 0) [] S sc__law_divisor rfl (body := s__law_divisor) (fun f cdv A outer s H E hr => ⟨_, dss_cons (ds_set sc__law_divisor.nd (de_callB call_abs a_abs z_abs (da_cons (de_var 0) (da_nil))) (i := 0))
  (dss_cons (ds_set sc__law_divisor.nd (de_callB call_abs a_abs z_abs (da_cons (de_var 1) (da_nil))) (i := 1))
  (dss_cons (ds_hid (ll__law_divisor_1) (ds_for [2, 3] PassesOwn.never rfl (di_range1 (da_cons (de_int) (da_nil)) z_range) (dg_name 2 sc__law_divisor.nd) (dss_cons (ds_if (dt_cmp (op_eqB (hu_of' hr)) v_dat (de_var 1) (de_int)) (dss_one (ds_break)) (dss_nil))
  (dss_cons (ds_set sc__law_divisor.nd (de_bin op_modN v_mod (de_callTy call_intD a_int z_int (da_cons (de_var 0) (da_nil))) (de_var 1)) (i := 3))
  (dss_cons (ds_set sc__law_divisor.nd (de_var 1) (i := 0))
  (dss_one (ds_set sc__law_divisor.nd (de_var 3) (i := 1))))))))
  (dss_one (ds_ret (de_var 0)))))⟩)
/-! ### _law_pattern -/
abbrev t__law_pattern : Stmt := topS 28
theorem sc__law_pattern : FnScope ["draws", "signs", "wide", "high", "row", "a", "d", "b", "letters", "rows", "y", "x", "k"] ["draws"] (defScope t__law_pattern) := ⟨rfl, rfl, rfl, by decide +kernel, rfl, by decide +kernel, by decide +kernel⟩
def kb__law_pattern_1 : FN := eComp none [11] (iR1 (aCons (eVar 2) (aNil))) (gNm 11) (cYes) (eBin dIx (eVar 1) (eRetD (eCall1 0 0 m__law_take (rIo 0 (rCons (eCB cLen (aCons (eVar 1) (aNil))) (rNil))))))
def k__law_pattern_1 : FN := hid (kb__law_pattern_1)
theorem kk__law_pattern_1 : k__law_pattern_1 = eComp none [11] (iR1 (aCons (eVar 2) (aNil))) (gNm 11) (cYes) (eBin dIx (eVar 1) (eRetD (eCall1 0 0 m__law_take (rIo 0 (rCons (eCB cLen (aCons (eVar 1) (aNil))) (rNil)))))) := hid_eq _
def kb__law_pattern_2 : FN := eComp none [10] (iR1 (aCons (eVar 3) (aNil))) (gNm 10) (cYes) (eSM sJoin (eC (.str "")) (aCons (eFrz (k__law_pattern_1)) (aNil)))
def k__law_pattern_2 : FN := hid (kb__law_pattern_2)
theorem kk__law_pattern_2 : k__law_pattern_2 = eComp none [10] (iR1 (aCons (eVar 3) (aNil))) (gNm 10) (cYes) (eSM sJoin (eC (.str "")) (aCons (eFrz (k__law_pattern_1)) (aNil))) := hid_eq _
def kb__law_pattern_3 : FN := eComp none [12] (iR1 (aCons (eC (.int 9)) (aNil))) (gNm 12) (cYes) (eBin dIx (eVar 1) (eRetD (eCall1 0 0 m__law_take (rIo 0 (rCons (eCB cLen (aCons (eVar 1) (aNil))) (rNil))))))
def k__law_pattern_3 : FN := hid (kb__law_pattern_3)
theorem kk__law_pattern_3 : k__law_pattern_3 = eComp none [12] (iR1 (aCons (eC (.int 9)) (aNil))) (gNm 12) (cYes) (eBin dIx (eVar 1) (eRetD (eCall1 0 0 m__law_take (rIo 0 (rCons (eCB cLen (aCons (eVar 1) (aNil))) (rNil)))))) := hid_eq _
def b__law_pattern_1 : FS := sSet 4 (eBin dAddA (eVar 4) (eBin dIx (eVar 8) (eBin dAddA (eBin dMulA (eBin dMod (eCB cInt (aCons (eVar 11) (aNil))) (eVar 5)) (eC (.int 3))) (eBin dMod (eCB cInt (aCons (eBin dSub (eVar 10) (eBin dMulA (eBin dFdiv (eVar 11) (eVar 5)) (eVar 7))) (aNil))) (eVar 6)))))
def lb__law_pattern_1 : FS := sFor none [11] (iR1 (aCons (eBin dFdiv (eBin dMulA (eVar 5) (eVar 6)) (eRetD (eCall0 m__law_divisor (aCons (eVar 7) (aCons (eVar 6) (aNil)))))) (aNil))) (gNm 11) b__law_pattern_1
def l__law_pattern_1 : FS := hid (lb__law_pattern_1)
theorem ll__law_pattern_1 : l__law_pattern_1 = sFor none [11] (iR1 (aCons (eBin dFdiv (eBin dMulA (eVar 5) (eVar 6)) (eRetD (eCall0 m__law_divisor (aCons (eVar 7) (aCons (eVar 6) (aNil)))))) (aNil))) (gNm 11) b__law_pattern_1 := hid_eq _
def b__law_pattern_2 : FS := sSeq (sSet 4 (eC (.str "")))
  (sSeq (l__law_pattern_1)
  (sExpr (eMeth 9 lAppend (aCons (eVar 4) (aNil)))))
def lb__law_pattern_2 : FS := sFor none [4, 10, 11] (iR1 (aCons (eVar 6) (aNil))) (gNm 10) b__law_pattern_2
def l__law_pattern_2 : FS := hid (lb__law_pattern_2)
theorem ll__law_pattern_2 : l__law_pattern_2 = sFor none [4, 10, 11] (iR1 (aCons (eVar 6) (aNil))) (gNm 10) b__law_pattern_2 := hid_eq _
def s__law_pattern : FS := sSeq (sSet 1 (eBin dIx (eFrz (eLst (aCons (eC (.str " A")) (aCons (eC (.str "ab")) (aCons (eC (.str "xy-")) (aCons (eC (.str "OX.#~")) (aNil))))))) (eRetD (eCall1 0 0 m__law_take (rIo 0 (rCons (eC (.int 4)) (rNil)))))))
  (sSeq (sSet 2 (eBin dAddA (eC (.int 1)) (eRetD (eCall1 0 0 m__law_take (rIo 0 (rCons (eC (.int 6)) (rNil)))))))
  (sSeq (sSet 3 (eBin dAddA (eC (.int 1)) (eRetD (eCall1 0 0 m__law_take (rIo 0 (rCons (eC (.int 6)) (rNil)))))))
  (sSeq (sIf (eTst (eBin (fun x y => (bEq x y).map .bool) (eRetD (eCall1 0 0 m__law_take (rIo 0 (rCons (eC (.int 2)) (rNil))))) (eC (.int 0)))) (sSeq (sSet 4 (eFrz (k__law_pattern_2)))
  (sRet (eCB cTuple (aCons (eVar 4) (aNil))))) (sNx))
  (sSeq (sSet 5 (eBin dAddA (eC (.int 1)) (eRetD (eCall1 0 0 m__law_take (rIo 0 (rCons (eC (.int 3)) (rNil)))))))
  (sSeq (sSet 6 (eBin dAddA (eC (.int 1)) (eRetD (eCall1 0 0 m__law_take (rIo 0 (rCons (eC (.int 3)) (rNil)))))))
  (sSeq (sSet 7 (eRetD (eCall1 0 0 m__law_take (rIo 0 (rCons (eVar 6) (rNil))))))
  (sSeq (sSet 8 (eFrz (k__law_pattern_3)))
  (sSeq (sSetN 9 (eLst (aNil)))
  (sSeq (l__law_pattern_2)
  (sRet (eCB cTuple (aCons (eVar 9) (aNil)))))))))))))
def mb__law_pattern : FnS := fnSem 13 [0] s__law_pattern
def m__law_pattern : FnS := hid mb__law_pattern
theorem mm__law_pattern : m__law_pattern = fnSem 13 [0] s__law_pattern := hid_eq _
instance : FnIs m__law_pattern 13 [0] s__law_pattern := ⟨mm__law_pattern⟩
theorem ok__law_pattern (S : Src K mg "_law_pattern" t__law_pattern ["draws"]) (h__law_divisor : Cal P w K mg base 1 "_law_divisor" ["one", "other"] [] m__law_divisor) (h__law_take : Cal P w K mg base 1 "_law_take" ["draws", "many"] [0] m__law_take) (z_int : mg "int" = none) (z_len : mg "len" = none) (z_range : mg "range" = none) (z_tuple : mg "tuple" = none) : Cal P w K mg base 2 "_law_pattern" ["draws"] [0] m__law_pattern := by
  rw [mm__law_pattern]
  exact pd_cal (k := 1) [0] S sc__law_pattern rfl (body := s__law_pattern) (fun f cdv A outer s H E hr => ⟨_, dss_cons (ds_set sc__law_pattern.nd (de_ix ((DN.de (dn_lst (da_cons (de_str) (da_cons (de_str) (da_cons (de_str) (da_cons (de_str) (da_nil)))))))) ((dc_cal1 h__law_take (hr.mono (by first | exact Nat.le_refl _ | decide | omega)) (j := 0) (dr_io (dr_cons (de_int) (dr_nil)))).de)) (i := 1))
  (dss_cons (ds_set sc__law_pattern.nd (de_bin op_addA v_addA (de_int) ((dc_cal1 h__law_take (hr.mono (by first | exact Nat.le_refl _ | decide | omega)) (j := 0) (dr_io (dr_cons (de_int) (dr_nil)))).de)) (i := 2))
  (dss_cons (ds_set sc__law_pattern.nd (de_bin op_addA v_addA (de_int) ((dc_cal1 h__law_take (hr.mono (by first | exact Nat.le_refl _ | decide | omega)) (j := 0) (dr_io (dr_cons (de_int) (dr_nil)))).de)) (i := 3))
  (dss_cons (ds_if (dt_cmp (op_eqB (hu_of' hr)) v_dat ((dc_cal1 h__law_take (hr.mono (by first | exact Nat.le_refl _ | decide | omega)) (j := 0) (dr_io (dr_cons (de_int) (dr_nil)))).de) (de_int)) (dss_cons (ds_hidF (kk__law_pattern_2) (ds_setCompX rfl sc__law_pattern.nd (di_range1 (da_cons (de_var 3) (da_nil)) z_range) (own := [("y", 10)]) (blkOk_by (N := ["draws", "signs", "wide", "high", "row", "a", "d", "b", "letters", "rows", "y", "x", "k"]) (sc := defScope t__law_pattern) (by decide +kernel)) (fun s H C cl fp => dg_name 10 sc__law_pattern.nd) (fun s H C cl fp => dts_nil) (fun s H C cl fp => de_sm PySem.F.slot_str_join PySem.F.type_str_join mt_join s_join (de_str) (da_cons ((DN.de (dn_hid (kk__law_pattern_1) (dn_compX rfl sc__law_pattern.nd (di_range1 (da_cons (de_var 2) (da_nil)) z_range) (own := [("x", 11)]) (blkOk_in (N := ["draws", "signs", "wide", "high", "row", "a", "d", "b", "letters", "rows", "y", "x", "k"]) (sc := defScope t__law_pattern) (blkOk_by (by decide +kernel))) (fun s H C cl fp => dg_name 11 sc__law_pattern.nd) (fun s H C cl fp => dts_nil) (fun s H C cl fp => de_ix (de_var 1) ((dc_cal1 h__law_take (hr.mono (by first | exact Nat.le_refl _ | decide | omega)) (j := 0) (dr_io (dr_cons (de_callB call_len a_len z_len (da_cons (de_var 1) (da_nil))) (dr_nil)))).de)))))) (da_nil)))))
  (dss_one (ds_ret (de_callTy call_tuple_of a_tuple z_tuple (da_cons (de_var 4) (da_nil)))))) (dss_nil))
  (dss_cons (ds_set sc__law_pattern.nd (de_bin op_addA v_addA (de_int) ((dc_cal1 h__law_take (hr.mono (by first | exact Nat.le_refl _ | decide | omega)) (j := 0) (dr_io (dr_cons (de_int) (dr_nil)))).de)) (i := 5))
  (dss_cons (ds_set sc__law_pattern.nd (de_bin op_addA v_addA (de_int) ((dc_cal1 h__law_take (hr.mono (by first | exact Nat.le_refl _ | decide | omega)) (j := 0) (dr_io (dr_cons (de_int) (dr_nil)))).de)) (i := 6))
  (dss_cons (ds_set sc__law_pattern.nd ((dc_cal1 h__law_take (hr.mono (by first | exact Nat.le_refl _ | decide | omega)) (j := 0) (dr_io (dr_cons (de_var 6) (dr_nil)))).de) (i := 7))
  (dss_cons (ds_hidF (kk__law_pattern_3) (ds_setCompX rfl sc__law_pattern.nd (di_range1 (da_cons (de_int) (da_nil)) z_range) (own := [("k", 12)]) (blkOk_by (N := ["draws", "signs", "wide", "high", "row", "a", "d", "b", "letters", "rows", "y", "x", "k"]) (sc := defScope t__law_pattern) (by decide +kernel)) (fun s H C cl fp => dg_name 12 sc__law_pattern.nd) (fun s H C cl fp => dts_nil) (fun s H C cl fp => de_ix (de_var 1) ((dc_cal1 h__law_take (hr.mono (by first | exact Nat.le_refl _ | decide | omega)) (j := 0) (dr_io (dr_cons (de_callB call_len a_len z_len (da_cons (de_var 1) (da_nil))) (dr_nil)))).de))))
  (dss_cons (ds_setN sc__law_pattern.nd (dn_lst (da_nil)) (i := 9))
  (dss_cons (ds_hid (ll__law_pattern_2) (ds_for [4, 10, 11] PassesOwn.never rfl (di_range1 (da_cons (de_var 6) (da_nil)) z_range) (dg_name 10 sc__law_pattern.nd) (dss_cons (ds_set sc__law_pattern.nd (de_str) (i := 4))
  (dss_cons (ds_hid (ll__law_pattern_1) (ds_for [11] PassesOwn.never rfl (di_range1 (da_cons (de_bin op_fdivD v_fdiv (de_bin op_mulA v_mulA (de_var 5) (de_var 6)) ((dc_cal0 h__law_divisor (hr.mono (by first | exact Nat.le_refl _ | decide | omega)) (da_cons (de_var 7) (da_cons (de_var 6) (da_nil))) (aLen_cons (aLen_cons (aLen_nil)))).de)) (da_nil)) z_range) (dg_name 11 sc__law_pattern.nd) (dss_one (ds_set sc__law_pattern.nd (de_bin op_addA v_addA (de_var 4) (de_ix (de_var 8) (de_bin op_addA v_addA (de_bin op_mulA v_mulA (de_bin op_modN v_mod (de_callTy call_intD a_int z_int (da_cons (de_var 11) (da_nil))) (de_var 5)) (de_int)) (de_bin op_modN v_mod (de_callTy call_intD a_int z_int (da_cons (de_bin op_sub v_sub (de_var 10) (de_bin op_mulA v_mulA (de_bin op_fdivD v_fdiv (de_var 11) (de_var 5)) (de_var 7))) (da_nil))) (de_var 6))))) (i := 4)))))
  (dss_one (ds_expr (de_lm (j := 9) PySem.F.slot_list_append PySem.F.type_list_append mt_append l_append (da_cons (de_var 4) (da_nil)))))))))
  (dss_one (ds_ret (de_callTy call_tuple_of a_tuple z_tuple (da_cons (de_var 9) (da_nil))))))))))))))⟩)
/-! ### _law_same -/
abbrev t__law_same : Stmt := topS 17
theorem sc__law_same : FnScope ["actual", "due", "k"] ["actual", "due"] (defScope t__law_same) := ⟨rfl, rfl, rfl, by decide +kernel, rfl, by decide +kernel, by decide +kernel⟩
def b__law_same_1 (mf : FnS) : FS := sIf (eNot (eTru (eRetD (eCall0 mf (aCons (eBin dIx (eVar 0) (eVar 2)) (aCons (eBin dIx (eVar 1) (eVar 2)) (aNil))))))) (sRet (eC (.bool false))) (sNx)
def lb__law_same_1 (mf : FnS) : FS := sFor none [2] (iR1 (aCons (eCB cLen (aCons (eVar 1) (aNil))) (aNil))) (gNm 2) (b__law_same_1 mf)
def l__law_same_1 (mf : FnS) : FS := hid (lb__law_same_1 mf)
theorem ll__law_same_1 (mf : FnS) : l__law_same_1 mf = sFor none [2] (iR1 (aCons (eCB cLen (aCons (eVar 1) (aNil))) (aNil))) (gNm 2) (b__law_same_1 mf) := hid_eq _
def s__law_same (mf : FnS) : FS := sSeq (sIf (eTru (eIsi "bool" (eVar 1))) (sRet (eAndV (eIsi "bool" (eVar 0)) (eBin (fun x y => (bEq x y).map .bool) (eVar 0) (eVar 1)))) (sNx))
  (sSeq (sIf (eTru (eIsi "int" (eVar 1))) (sRet (eAndV (eIsi "int" (eVar 0)) (eAndV (eNotV (eIsi "bool" (eVar 0))) (eBin (fun x y => (bEq x y).map .bool) (eVar 0) (eVar 1))))) (sNx))
  (sSeq (sIf (eTru (eIsi "str" (eVar 1))) (sRet (eAndV (eIsi "str" (eVar 0)) (eBin (fun x y => (bEq x y).map .bool) (eVar 0) (eVar 1)))) (sNx))
  (sSeq (sIf (eTst (eBin (fun x y => (bIsN x y).map .bool) (eVar 1) (eC .none))) (sRet (eBin (fun x y => (bIsN x y).map .bool) (eVar 0) (eC .none))) (sNx))
  (sSeq (sIf (eOr (eNot (eTru (eIsi "tuple" (eVar 0)))) (eTst (eBin (fun x y => (bNe x y).map .bool) (eCB cLen (aCons (eVar 0) (aNil))) (eCB cLen (aCons (eVar 1) (aNil)))))) (sRet (eC (.bool false))) (sNx))
  (sSeq (l__law_same_1 mf)
  (sRet (eC (.bool true))))))))
def m__law_same : Nat → FnS
  | 0 => fun _ => none
  | n + 1 => fnSem 3 [] (s__law_same (m__law_same n))
instance (n : Nat) : FnIs (m__law_same (n + 1)) 3 [] (s__law_same (m__law_same n)) := ⟨rfl⟩
theorem ok__law_same (S : Src K mg "_law_same" t__law_same ["actual", "due"]) (z_bool : mg "bool" = none) (z_int : mg "int" = none) (z_isinstance : mg "isinstance" = none) (z_len : mg "len" = none) (z_range : mg "range" = none) (z_str : mg "str" = none) (z_tuple : mg "tuple" = none) : ∀ n : Nat, Cal P w K mg base (n + 0) "_law_same" ["actual", "due"] [] (m__law_same n)
  | 0 => cal_none (S := S)
  | n + 1 => by
    have h__law_same := ok__law_same S z_bool z_int z_isinstance z_len z_range z_str z_tuple n
    exact Cal.cast (pd_cal (k := n + 0) [] S sc__law_same rfl (body := s__law_same (m__law_same n)) (fun f cdv A outer s H E hr => ⟨_, dss_cons (ds_if (dt_tru (de_isi (de_var 1) z_isinstance z_bool)) (dss_one (ds_ret (de_and (de_isi (de_var 0) z_isinstance z_bool) (de_one (de_cmp (op_eqB (hu_of' hr)) v_dat (de_var 0) (de_var 1)))))) (dss_nil))
  (dss_cons (ds_if (dt_tru (de_isi (de_var 1) z_isinstance z_int)) (dss_one (ds_ret (de_and (de_isi (de_var 0) z_isinstance z_int) (de_and (de_not (de_isi (de_var 0) z_isinstance z_bool)) (de_one (de_cmp (op_eqB (hu_of' hr)) v_dat (de_var 0) (de_var 1))))))) (dss_nil))
  (dss_cons (ds_if (dt_tru (de_isi (de_var 1) z_isinstance z_str)) (dss_one (ds_ret (de_and (de_isi (de_var 0) z_isinstance z_str) (de_one (de_cmp (op_eqB (hu_of' hr)) v_dat (de_var 0) (de_var 1)))))) (dss_nil))
  (dss_cons (ds_if (dt_cmp (op_isNB) v_dat (de_var 1) (de_non)) (dss_one (ds_ret (de_cmp (op_isNB) v_dat (de_var 0) (de_non)))) (dss_nil))
  (dss_cons (ds_if ((dw_or (dt_not (dt_tru (de_isi (de_var 0) z_isinstance z_tuple))) (dw_or1 (dt_cmp (op_neB (hu_of' hr)) v_dat (de_callB call_len a_len z_len (da_cons (de_var 0) (da_nil))) (de_callB call_len a_len z_len (da_cons (de_var 1) (da_nil)))))).dt) (dss_one (ds_ret (de_bl))) (dss_nil))
  (dss_cons (ds_hid (ll__law_same_1 (m__law_same n)) (ds_for [2] PassesOwn.never rfl (di_range1 (da_cons (de_callB call_len a_len z_len (da_cons (de_var 1) (da_nil))) (da_nil)) z_range) (dg_name 2 sc__law_same.nd) (dss_one (ds_if (dt_not (dt_tru ((dc_cal0 h__law_same (hr.mono (by first | exact Nat.le_refl _ | decide | omega)) (da_cons (de_ix (de_var 0) (de_var 2)) (da_cons (de_ix (de_var 1) (de_var 2)) (da_nil))) (aLen_cons (aLen_cons (aLen_nil)))).de))) (dss_one (ds_ret (de_bl))) (dss_nil)))))
  (dss_one (ds_ret (de_bl))))))))⟩)) (by omega)
/-! ### divisor -/
abbrev t_divisor : Stmt := topS 1
theorem sc_divisor : FnScope ["one", "other"] ["one", "other"] (defScope t_divisor) := ⟨rfl, rfl, rfl, by decide +kernel, rfl, by decide +kernel, by decide +kernel⟩
def b_divisor_1 : FS := sPar 0 1 (aCons (eVar 1) (aCons (eBin dMod (eVar 0) (eVar 1)) (aNil)))
def lb_divisor_1 : FS := sWhile [] (eTst (eBin (fun x y => (bGt x y).map .bool) (eVar 1) (eC (.int 0)))) b_divisor_1
def l_divisor_1 : FS := hid (lb_divisor_1)
theorem ll_divisor_1 : l_divisor_1 = sWhile [] (eTst (eBin (fun x y => (bGt x y).map .bool) (eVar 1) (eC (.int 0)))) b_divisor_1 := hid_eq _
def s_divisor : FS := sSeq (sPar 0 1 (aCons (eCB cAbs (aCons (eVar 0) (aNil))) (aCons (eCB cAbs (aCons (eVar 1) (aNil))) (aNil))))
  (sSeq (l_divisor_1)
  (sRet (eVar 0)))
def mb_divisor : FnS := fnSem 2 [] s_divisor
def m_divisor : FnS := hid mb_divisor
theorem mm_divisor : m_divisor = fnSem 2 [] s_divisor := hid_eq _
instance : FnIs m_divisor 2 [] s_divisor := ⟨mm_divisor⟩
theorem ok_divisor (S : Src K mg "divisor" t_divisor ["one", "other"]) (z_abs : mg "abs" = none) : Cal P w K mg base 1 "divisor" ["one", "other"] [] m_divisor := by
  rw [mm_divisor]
  exact pd_cal (k := 0) [] S sc_divisor rfl (body := s_divisor) (fun f cdv A outer s H E hr => ⟨_, dss_cons (ds_par rfl sc_divisor.nd (da_cons (de_callB call_abs a_abs z_abs (da_cons (de_var 0) (da_nil))) (da_cons (de_callB call_abs a_abs z_abs (da_cons (de_var 1) (da_nil))) (da_nil))) (i := 0) (j := 1))
  (dss_cons (ds_hid (ll_divisor_1) (ds_while [] PassesOwn.never (dt_cmp (op_gtB (hu_of' hr)) v_dat (de_var 1) (de_int)) (dss_one (ds_par rfl sc_divisor.nd (da_cons (de_var 1) (da_cons (de_bin op_modN v_mod (de_var 0) (de_var 1)) (da_nil))) (i := 0) (j := 1)))))
  (dss_one (ds_ret (de_var 0))))⟩)
/-! ### block_of -/
abbrev t_block_of : Stmt := topS 11
theorem sc_block_of : FnScope ["one", "other", "wide"] ["one", "other"] (defScope t_block_of) := ⟨rfl, rfl, rfl, by decide +kernel, rfl, by decide +kernel, by decide +kernel⟩
def s_block_of : FS := sSeq (sSet 2 (eBin dFdiv (eBin dMulA (eCB cLen (aCons (eBin dIx (eVar 0) (eC (.int 0))) (aNil))) (eCB cLen (aCons (eBin dIx (eVar 1) (eC (.int 0))) (aNil)))) (eRetD (eCall0 m_divisor (aCons (eCB cLen (aCons (eBin dIx (eVar 0) (eC (.int 0))) (aNil))) (aCons (eCB cLen (aCons (eBin dIx (eVar 1) (eC (.int 0))) (aNil))) (aNil)))))))
  (sRet (eTup (aCons (eVar 2) (aCons (eBin dFdiv (eBin dMulA (eCB cLen (aCons (eVar 0) (aNil))) (eCB cLen (aCons (eVar 1) (aNil)))) (eRetD (eCall0 m_divisor (aCons (eCB cLen (aCons (eVar 0) (aNil))) (aCons (eCB cLen (aCons (eVar 1) (aNil))) (aNil)))))) (aNil)))))
def mb_block_of : FnS := fnSem 3 [] s_block_of
def m_block_of : FnS := hid mb_block_of
theorem mm_block_of : m_block_of = fnSem 3 [] s_block_of := hid_eq _
instance : FnIs m_block_of 3 [] s_block_of := ⟨mm_block_of⟩
theorem ok_block_of (S : Src K mg "block_of" t_block_of ["one", "other"]) (h_divisor : Cal P w K mg base 1 "divisor" ["one", "other"] [] m_divisor) (z_len : mg "len" = none) : Cal P w K mg base 2 "block_of" ["one", "other"] [] m_block_of := by
  rw [mm_block_of]
  exact pd_cal (k := 1) [] S sc_block_of rfl (body := s_block_of) (fun f cdv A outer s H E hr => ⟨_, dss_cons (ds_set sc_block_of.nd (de_bin op_fdivD v_fdiv (de_bin op_mulA v_mulA (de_callB call_len a_len z_len (da_cons (de_ix (de_var 0) (de_int)) (da_nil))) (de_callB call_len a_len z_len (da_cons (de_ix (de_var 1) (de_int)) (da_nil)))) ((dc_cal0 h_divisor (hr.mono (by first | exact Nat.le_refl _ | decide | omega)) (da_cons (de_callB call_len a_len z_len (da_cons (de_ix (de_var 0) (de_int)) (da_nil))) (da_cons (de_callB call_len a_len z_len (da_cons (de_ix (de_var 1) (de_int)) (da_nil))) (da_nil))) (aLen_cons (aLen_cons (aLen_nil)))).de)) (i := 2))
  (dss_one (ds_ret (de_tup (da_cons (de_var 2) (da_cons (de_bin op_fdivD v_fdiv (de_bin op_mulA v_mulA (de_callB call_len a_len z_len (da_cons (de_var 0) (da_nil))) (de_callB call_len a_len z_len (da_cons (de_var 1) (da_nil)))) ((dc_cal0 h_divisor (hr.mono (by first | exact Nat.le_refl _ | decide | omega)) (da_cons (de_callB call_len a_len z_len (da_cons (de_var 0) (da_nil))) (da_cons (de_callB call_len a_len z_len (da_cons (de_var 1) (da_nil))) (da_nil))) (aLen_cons (aLen_cons (aLen_nil)))).de)) (da_nil))))))⟩)
/-! ### sign_of -/
abbrev t_sign_of : Stmt := topS 8
theorem sc_sign_of : FnScope ["rows", "place", "x", "y"] ["rows", "place"] (defScope t_sign_of) := ⟨rfl, rfl, rfl, by decide +kernel, rfl, by decide +kernel, by decide +kernel⟩
def s_sign_of : FS := sSeq (sAsg (eVar 1) (gTp 2 (gCn (gNm 2) (gCn (gNm 3) (gNl)))))
  (sRet (eBin dIx (eBin dIx (eVar 0) (eBin dMod (eVar 3) (eCB cLen (aCons (eVar 0) (aNil))))) (eBin dMod (eVar 2) (eCB cLen (aCons (eBin dIx (eVar 0) (eC (.int 0))) (aNil))))))
def mb_sign_of : FnS := fnSem 4 [] s_sign_of
def m_sign_of : FnS := hid mb_sign_of
theorem mm_sign_of : m_sign_of = fnSem 4 [] s_sign_of := hid_eq _
instance : FnIs m_sign_of 4 [] s_sign_of := ⟨mm_sign_of⟩
theorem ok_sign_of (S : Src K mg "sign_of" t_sign_of ["rows", "place"]) (z_len : mg "len" = none) : Cal P w K mg base 1 "sign_of" ["rows", "place"] [] m_sign_of := by
  rw [mm_sign_of]
  exact pd_cal (k := 0) [] S sc_sign_of rfl (body := s_sign_of) (fun f cdv A outer s H E hr => ⟨_, dss_cons (ds_asg (de_var 1) (dg_tup rfl (dgs_cons (dg_name 2 sc_sign_of.nd) (dgs_cons (dg_name 3 sc_sign_of.nd) (dgs_nil)))))
  (dss_one (ds_ret (de_ix (de_ix (de_var 0) (de_bin op_modN v_mod (de_var 3) (de_callB call_len a_len z_len (da_cons (de_var 0) (da_nil))))) (de_bin op_modN v_mod (de_var 2) (de_callB call_len a_len z_len (da_cons (de_ix (de_var 0) (de_int)) (da_nil)))))))⟩)
/-! ### same_pattern -/
abbrev t_same_pattern : Stmt := topS 12
theorem sc_same_pattern : FnScope ["one", "other", "wide", "high", "x", "y"] ["one", "other"] (defScope t_same_pattern) := ⟨rfl, rfl, rfl, by decide +kernel, rfl, by decide +kernel, by decide +kernel⟩
def b_same_pattern_1 : FS := sIf (eTst (eBin (fun x y => (bNe x y).map .bool) (eRetD (eCall0 m_sign_of (aCons (eVar 0) (aCons (eTup (aCons (eVar 4) (aCons (eVar 5) (aNil)))) (aNil))))) (eRetD (eCall0 m_sign_of (aCons (eVar 1) (aCons (eTup (aCons (eVar 4) (aCons (eVar 5) (aNil)))) (aNil))))))) (sRet (eTup (aCons (eVar 4) (aCons (eVar 5) (aNil))))) (sNx)
def lb_same_pattern_1 : FS := sFor none [5] (iR1 (aCons (eVar 3) (aNil))) (gNm 5) b_same_pattern_1
def l_same_pattern_1 : FS := hid (lb_same_pattern_1)
theorem ll_same_pattern_1 : l_same_pattern_1 = sFor none [5] (iR1 (aCons (eVar 3) (aNil))) (gNm 5) b_same_pattern_1 := hid_eq _
def b_same_pattern_2 : FS := l_same_pattern_1
def lb_same_pattern_2 : FS := sFor none [4, 5] (iR1 (aCons (eVar 2) (aNil))) (gNm 4) b_same_pattern_2
def l_same_pattern_2 : FS := hid (lb_same_pattern_2)
theorem ll_same_pattern_2 : l_same_pattern_2 = sFor none [4, 5] (iR1 (aCons (eVar 2) (aNil))) (gNm 4) b_same_pattern_2 := hid_eq _
def s_same_pattern : FS := sSeq (sAsg (eRetD (eCall0 m_block_of (aCons (eVar 0) (aCons (eVar 1) (aNil))))) (gTp 2 (gCn (gNm 2) (gCn (gNm 3) (gNl)))))
  (sSeq (l_same_pattern_2)
  (sRet (eC .none)))
def mb_same_pattern : FnS := fnSem 6 [] s_same_pattern
def m_same_pattern : FnS := hid mb_same_pattern
theorem mm_same_pattern : m_same_pattern = fnSem 6 [] s_same_pattern := hid_eq _
instance : FnIs m_same_pattern 6 [] s_same_pattern := ⟨mm_same_pattern⟩
theorem ok_same_pattern (S : Src K mg "same_pattern" t_same_pattern ["one", "other"]) (h_block_of : Cal P w K mg base 2 "block_of" ["one", "other"] [] m_block_of) (h_sign_of : Cal P w K mg base 1 "sign_of" ["rows", "place"] [] m_sign_of) (z_range : mg "range" = none) : Cal P w K mg base 3 "same_pattern" ["one", "other"] [] m_same_pattern := by
  rw [mm_same_pattern]
  exact pd_cal (k := 2) [] S sc_same_pattern rfl (body := s_same_pattern) (fun f cdv A outer s H E hr => ⟨_, dss_cons (ds_asg ((dc_cal0 h_block_of (hr.mono (by first | exact Nat.le_refl _ | decide | omega)) (da_cons (de_var 0) (da_cons (de_var 1) (da_nil))) (aLen_cons (aLen_cons (aLen_nil)))).de) (dg_tup rfl (dgs_cons (dg_name 2 sc_same_pattern.nd) (dgs_cons (dg_name 3 sc_same_pattern.nd) (dgs_nil)))))
  (dss_cons (ds_hid (ll_same_pattern_2) (ds_for [4, 5] PassesOwn.never rfl (di_range1 (da_cons (de_var 2) (da_nil)) z_range) (dg_name 4 sc_same_pattern.nd) (dss_one (ds_hid (ll_same_pattern_1) (ds_for [5] PassesOwn.never rfl (di_range1 (da_cons (de_var 3) (da_nil)) z_range) (dg_name 5 sc_same_pattern.nd) (dss_one (ds_if (dt_cmp (op_neB (hu_of' hr)) v_dat ((dc_cal0 h_sign_of (hr.mono (by first | exact Nat.le_refl _ | decide | omega)) (da_cons (de_var 0) (da_cons (de_tup (da_cons (de_var 4) (da_cons (de_var 5) (da_nil)))) (da_nil))) (aLen_cons (aLen_cons (aLen_nil)))).de) ((dc_cal0 h_sign_of (hr.mono (by first | exact Nat.le_refl _ | decide | omega)) (da_cons (de_var 1) (da_cons (de_tup (da_cons (de_var 4) (da_cons (de_var 5) (da_nil)))) (da_nil))) (aLen_cons (aLen_cons (aLen_nil)))).de)) (dss_one (ds_ret (de_tup (da_cons (de_var 4) (da_cons (de_var 5) (da_nil)))))) (dss_nil))))))))
  (dss_one (ds_ret (de_non))))⟩)
/-! ### is_moved_by -/
abbrev t_is_moved_by : Stmt := topS 9
theorem sc_is_moved_by : FnScope ["one", "other", "step", "wide", "high", "x", "y"] ["one", "other", "step", "wide", "high"] (defScope t_is_moved_by) := ⟨rfl, rfl, rfl, by decide +kernel, rfl, by decide +kernel, by decide +kernel⟩
def b_is_moved_by_1 : FS := sIf (eTst (eBin (fun x y => (bNe x y).map .bool) (eRetD (eCall0 m_sign_of (aCons (eVar 1) (aCons (eTup (aCons (eBin dAddA (eVar 5) (eBin dIx (eVar 2) (eC (.int 0)))) (aCons (eBin dAddA (eVar 6) (eBin dIx (eVar 2) (eC (.int 1)))) (aNil)))) (aNil))))) (eRetD (eCall0 m_sign_of (aCons (eVar 0) (aCons (eTup (aCons (eVar 5) (aCons (eVar 6) (aNil)))) (aNil))))))) (sRet (eC (.bool false))) (sNx)
def lb_is_moved_by_1 : FS := sFor none [6] (iR1 (aCons (eVar 4) (aNil))) (gNm 6) b_is_moved_by_1
def l_is_moved_by_1 : FS := hid (lb_is_moved_by_1)
theorem ll_is_moved_by_1 : l_is_moved_by_1 = sFor none [6] (iR1 (aCons (eVar 4) (aNil))) (gNm 6) b_is_moved_by_1 := hid_eq _
def b_is_moved_by_2 : FS := l_is_moved_by_1
def lb_is_moved_by_2 : FS := sFor none [5, 6] (iR1 (aCons (eVar 3) (aNil))) (gNm 5) b_is_moved_by_2
def l_is_moved_by_2 : FS := hid (lb_is_moved_by_2)
theorem ll_is_moved_by_2 : l_is_moved_by_2 = sFor none [5, 6] (iR1 (aCons (eVar 3) (aNil))) (gNm 5) b_is_moved_by_2 := hid_eq _
def s_is_moved_by : FS := sSeq (l_is_moved_by_2)
  (sRet (eC (.bool true)))
def mb_is_moved_by : FnS := fnSem 7 [] s_is_moved_by
def m_is_moved_by : FnS := hid mb_is_moved_by
theorem mm_is_moved_by : m_is_moved_by = fnSem 7 [] s_is_moved_by := hid_eq _
instance : FnIs m_is_moved_by 7 [] s_is_moved_by := ⟨mm_is_moved_by⟩
theorem ok_is_moved_by (S : Src K mg "is_moved_by" t_is_moved_by ["one", "other", "step", "wide", "high"]) (h_sign_of : Cal P w K mg base 1 "sign_of" ["rows", "place"] [] m_sign_of) (z_range : mg "range" = none) : Cal P w K mg base 2 "is_moved_by" ["one", "other", "step", "wide", "high"] [] m_is_moved_by := by
  rw [mm_is_moved_by]
  exact pd_cal (k := 1) [] S sc_is_moved_by rfl (body := s_is_moved_by) (fun f cdv A outer s H E hr => ⟨_, dss_cons (ds_hid (ll_is_moved_by_2) (ds_for [5, 6] PassesOwn.never rfl (di_range1 (da_cons (de_var 3) (da_nil)) z_range) (dg_name 5 sc_is_moved_by.nd) (dss_one (ds_hid (ll_is_moved_by_1) (ds_for [6] PassesOwn.never rfl (di_range1 (da_cons (de_var 4) (da_nil)) z_range) (dg_name 6 sc_is_moved_by.nd) (dss_one (ds_if (dt_cmp (op_neB (hu_of' hr)) v_dat ((dc_cal0 h_sign_of (hr.mono (by first | exact Nat.le_refl _ | decide | omega)) (da_cons (de_var 1) (da_cons (de_tup (da_cons (de_bin op_addA v_addA (de_var 5) (de_ix (de_var 2) (de_int))) (da_cons (de_bin op_addA v_addA (de_var 6) (de_ix (de_var 2) (de_int))) (da_nil)))) (da_nil))) (aLen_cons (aLen_cons (aLen_nil)))).de) ((dc_cal0 h_sign_of (hr.mono (by first | exact Nat.le_refl _ | decide | omega)) (da_cons (de_var 0) (da_cons (de_tup (da_cons (de_var 5) (da_cons (de_var 6) (da_nil)))) (da_nil))) (aLen_cons (aLen_cons (aLen_nil)))).de)) (dss_one (ds_ret (de_bl))) (dss_nil))))))))
  (dss_one (ds_ret (de_bl)))⟩)
/-! ### moved_alike -/
abbrev t_moved_alike : Stmt := topS 13
theorem sc_moved_alike : FnScope ["one", "other", "wide", "high", "x", "y"] ["one", "other"] (defScope t_moved_alike) := ⟨rfl, rfl, rfl, by decide +kernel, rfl, by decide +kernel, by decide +kernel⟩
def b_moved_alike_1 : FS := sIf (eTru (eRetD (eCall0 m_is_moved_by (aCons (eVar 0) (aCons (eVar 1) (aCons (eTup (aCons (eVar 4) (aCons (eVar 5) (aNil)))) (aCons (eVar 2) (aCons (eVar 3) (aNil))))))))) (sRet (eTup (aCons (eVar 4) (aCons (eVar 5) (aNil))))) (sNx)
def lb_moved_alike_1 : FS := sFor none [5] (iR1 (aCons (eCB cLen (aCons (eVar 0) (aNil))) (aNil))) (gNm 5) b_moved_alike_1
def l_moved_alike_1 : FS := hid (lb_moved_alike_1)
theorem ll_moved_alike_1 : l_moved_alike_1 = sFor none [5] (iR1 (aCons (eCB cLen (aCons (eVar 0) (aNil))) (aNil))) (gNm 5) b_moved_alike_1 := hid_eq _
def b_moved_alike_2 : FS := l_moved_alike_1
def lb_moved_alike_2 : FS := sFor none [4, 5] (iR1 (aCons (eCB cLen (aCons (eBin dIx (eVar 0) (eC (.int 0))) (aNil))) (aNil))) (gNm 4) b_moved_alike_2
def l_moved_alike_2 : FS := hid (lb_moved_alike_2)
theorem ll_moved_alike_2 : l_moved_alike_2 = sFor none [4, 5] (iR1 (aCons (eCB cLen (aCons (eBin dIx (eVar 0) (eC (.int 0))) (aNil))) (aNil))) (gNm 4) b_moved_alike_2 := hid_eq _
def s_moved_alike : FS := sSeq (sAsg (eRetD (eCall0 m_block_of (aCons (eVar 0) (aCons (eVar 1) (aNil))))) (gTp 2 (gCn (gNm 2) (gCn (gNm 3) (gNl)))))
  (sSeq (l_moved_alike_2)
  (sRet (eC .none)))
def mb_moved_alike : FnS := fnSem 6 [] s_moved_alike
def m_moved_alike : FnS := hid mb_moved_alike
theorem mm_moved_alike : m_moved_alike = fnSem 6 [] s_moved_alike := hid_eq _
instance : FnIs m_moved_alike 6 [] s_moved_alike := ⟨mm_moved_alike⟩
theorem ok_moved_alike (S : Src K mg "moved_alike" t_moved_alike ["one", "other"]) (h_block_of : Cal P w K mg base 2 "block_of" ["one", "other"] [] m_block_of) (h_is_moved_by : Cal P w K mg base 2 "is_moved_by" ["one", "other", "step", "wide", "high"] [] m_is_moved_by) (z_len : mg "len" = none) (z_range : mg "range" = none) : Cal P w K mg base 3 "moved_alike" ["one", "other"] [] m_moved_alike := by
  rw [mm_moved_alike]
  exact pd_cal (k := 2) [] S sc_moved_alike rfl (body := s_moved_alike) (fun f cdv A outer s H E hr => ⟨_, dss_cons (ds_asg ((dc_cal0 h_block_of (hr.mono (by first | exact Nat.le_refl _ | decide | omega)) (da_cons (de_var 0) (da_cons (de_var 1) (da_nil))) (aLen_cons (aLen_cons (aLen_nil)))).de) (dg_tup rfl (dgs_cons (dg_name 2 sc_moved_alike.nd) (dgs_cons (dg_name 3 sc_moved_alike.nd) (dgs_nil)))))
  (dss_cons (ds_hid (ll_moved_alike_2) (ds_for [4, 5] PassesOwn.never rfl (di_range1 (da_cons (de_callB call_len a_len z_len (da_cons (de_ix (de_var 0) (de_int)) (da_nil))) (da_nil)) z_range) (dg_name 4 sc_moved_alike.nd) (dss_one (ds_hid (ll_moved_alike_1) (ds_for [5] PassesOwn.never rfl (di_range1 (da_cons (de_callB call_len a_len z_len (da_cons (de_var 0) (da_nil))) (da_nil)) z_range) (dg_name 5 sc_moved_alike.nd) (dss_one (ds_if (dt_tru ((dc_cal0 h_is_moved_by (hr.mono (by first | exact Nat.le_refl _ | decide | omega)) (da_cons (de_var 0) (da_cons (de_var 1) (da_cons (de_tup (da_cons (de_var 4) (da_cons (de_var 5) (da_nil)))) (da_cons (de_var 2) (da_cons (de_var 3) (da_nil)))))) (aLen_cons (aLen_cons (aLen_cons (aLen_cons (aLen_cons (aLen_nil))))))).de)) (dss_one (ds_ret (de_tup (da_cons (de_var 4) (da_cons (de_var 5) (da_nil)))))) (dss_nil))))))))
  (dss_one (ds_ret (de_non))))⟩)
/-! ### _law_sign -/
abbrev t__law_sign : Stmt := topS 29
theorem sc__law_sign : FnScope ["rows", "x", "y"] ["rows", "x", "y"] (defScope t__law_sign) := ⟨rfl, rfl, rfl, by decide +kernel, rfl, by decide +kernel, by decide +kernel⟩
def s__law_sign : FS := sRet (eBin dIx (eBin dIx (eVar 0) (eBin dMod (eCB cInt (aCons (eVar 2) (aNil))) (eCB cLen (aCons (eVar 0) (aNil))))) (eBin dMod (eCB cInt (aCons (eVar 1) (aNil))) (eCB cLen (aCons (eBin dIx (eVar 0) (eC (.int 0))) (aNil)))))
def mb__law_sign : FnS := fnSem 3 [] s__law_sign
def m__law_sign : FnS := hid mb__law_sign
theorem mm__law_sign : m__law_sign = fnSem 3 [] s__law_sign := hid_eq _
instance : FnIs m__law_sign 3 [] s__law_sign := ⟨mm__law_sign⟩
theorem ok__law_sign (S : Src K mg "_law_sign" t__law_sign ["rows", "x", "y"]) (z_int : mg "int" = none) (z_len : mg "len" = none) : Cal P w K mg base 1 "_law_sign" ["rows", "x", "y"] [] m__law_sign := by
  rw [mm__law_sign]
  exact pd_cal (k := 0) [] S sc__law_sign rfl (body := s__law_sign) (fun f cdv A outer s H E hr => ⟨_, dss_one (ds_ret (de_ix (de_ix (de_var 0) (de_bin op_modN v_mod (de_callTy call_intD a_int z_int (da_cons (de_var 2) (da_nil))) (de_callB call_len a_len z_len (da_cons (de_var 0) (da_nil))))) (de_bin op_modN v_mod (de_callTy call_intD a_int z_int (da_cons (de_var 1) (da_nil))) (de_callB call_len a_len z_len (da_cons (de_ix (de_var 0) (de_int)) (da_nil))))))⟩)
/-! ### _law_carried -/
abbrev t__law_carried : Stmt := topS 30
theorem sc__law_carried : FnScope ["one", "other", "step", "wide", "high", "x", "y"] ["one", "other", "step", "wide", "high"] (defScope t__law_carried) := ⟨rfl, rfl, rfl, by decide +kernel, rfl, by decide +kernel, by decide +kernel⟩
def b__law_carried_1 : FS := sIf (eTst (eBin (fun x y => (bNe x y).map .bool) (eRetD (eCall0 m__law_sign (aCons (eVar 0) (aCons (eVar 5) (aCons (eVar 6) (aNil)))))) (eRetD (eCall0 m__law_sign (aCons (eVar 1) (aCons (eBin dAddA (eVar 5) (eBin dIx (eVar 2) (eC (.int 0)))) (aCons (eBin dAddA (eVar 6) (eBin dIx (eVar 2) (eC (.int 1)))) (aNil)))))))) (sRet (eC (.bool false))) (sNx)
def lb__law_carried_1 : FS := sFor none [6] (iR1 (aCons (eVar 4) (aNil))) (gNm 6) b__law_carried_1
def l__law_carried_1 : FS := hid (lb__law_carried_1)
theorem ll__law_carried_1 : l__law_carried_1 = sFor none [6] (iR1 (aCons (eVar 4) (aNil))) (gNm 6) b__law_carried_1 := hid_eq _
def b__law_carried_2 : FS := l__law_carried_1
def lb__law_carried_2 : FS := sFor none [5, 6] (iR1 (aCons (eVar 3) (aNil))) (gNm 5) b__law_carried_2
def l__law_carried_2 : FS := hid (lb__law_carried_2)
theorem ll__law_carried_2 : l__law_carried_2 = sFor none [5, 6] (iR1 (aCons (eVar 3) (aNil))) (gNm 5) b__law_carried_2 := hid_eq _
def s__law_carried : FS := sSeq (l__law_carried_2)
  (sRet (eC (.bool true)))
def mb__law_carried : FnS := fnSem 7 [] s__law_carried
def m__law_carried : FnS := hid mb__law_carried
theorem mm__law_carried : m__law_carried = fnSem 7 [] s__law_carried := hid_eq _
instance : FnIs m__law_carried 7 [] s__law_carried := ⟨mm__law_carried⟩
theorem ok__law_carried (S : Src K mg "_law_carried" t__law_carried ["one", "other", "step", "wide", "high"]) (h__law_sign : Cal P w K mg base 1 "_law_sign" ["rows", "x", "y"] [] m__law_sign) (z_range : mg "range" = none) : Cal P w K mg base 2 "_law_carried" ["one", "other", "step", "wide", "high"] [] m__law_carried := by
  rw [mm__law_carried]
  exact pd_cal (k := 1) [] S sc__law_carried rfl (body := s__law_carried) (fun f cdv A outer s H E hr => ⟨_, dss_cons (ds_hid (ll__law_carried_2) (ds_for [5, 6] PassesOwn.never rfl (di_range1 (da_cons (de_var 3) (da_nil)) z_range) (dg_name 5 sc__law_carried.nd) (dss_one (ds_hid (ll__law_carried_1) (ds_for [6] PassesOwn.never rfl (di_range1 (da_cons (de_var 4) (da_nil)) z_range) (dg_name 6 sc__law_carried.nd) (dss_one (ds_if (dt_cmp (op_neB (hu_of' hr)) v_dat ((dc_cal0 h__law_sign (hr.mono (by first | exact Nat.le_refl _ | decide | omega)) (da_cons (de_var 0) (da_cons (de_var 5) (da_cons (de_var 6) (da_nil)))) (aLen_cons (aLen_cons (aLen_cons (aLen_nil))))).de) ((dc_cal0 h__law_sign (hr.mono (by first | exact Nat.le_refl _ | decide | omega)) (da_cons (de_var 1) (da_cons (de_bin op_addA v_addA (de_var 5) (de_ix (de_var 2) (de_int))) (da_cons (de_bin op_addA v_addA (de_var 6) (de_ix (de_var 2) (de_int))) (da_nil)))) (aLen_cons (aLen_cons (aLen_cons (aLen_nil))))).de)) (dss_one (ds_ret (de_bl))) (dss_nil))))))))
  (dss_one (ds_ret (de_bl)))⟩)
/-! ### _law_two_right -/
abbrev t__law_two_right : Stmt := topS 33
theorem sc__law_two_right : FnScope ["one", "other", "wide", "high", "unlike", "x", "y", "step"] ["one", "other"] (defScope t__law_two_right) := ⟨rfl, rfl, rfl, by decide +kernel, rfl, by decide +kernel, by decide +kernel⟩
def b__law_two_right_1 : FS := sIf (eAnd (eTst (eBin (fun x y => (bIsN x y).map .bool) (eVar 4) (eC .none))) (eTst (eBin (fun x y => (bNe x y).map .bool) (eRetD (eCall0 m__law_sign (aCons (eVar 0) (aCons (eVar 5) (aCons (eVar 6) (aNil)))))) (eRetD (eCall0 m__law_sign (aCons (eVar 1) (aCons (eVar 5) (aCons (eVar 6) (aNil))))))))) (sSet 4 (eTup (aCons (eVar 5) (aCons (eVar 6) (aNil))))) (sNx)
def lb__law_two_right_1 : FS := sFor none [6] (iR1 (aCons (eVar 3) (aNil))) (gNm 6) b__law_two_right_1
def l__law_two_right_1 : FS := hid (lb__law_two_right_1)
theorem ll__law_two_right_1 : l__law_two_right_1 = sFor none [6] (iR1 (aCons (eVar 3) (aNil))) (gNm 6) b__law_two_right_1 := hid_eq _
def b__law_two_right_2 : FS := l__law_two_right_1
def lb__law_two_right_2 : FS := sFor none [5, 6] (iR1 (aCons (eVar 2) (aNil))) (gNm 5) b__law_two_right_2
def l__law_two_right_2 : FS := hid (lb__law_two_right_2)
theorem ll__law_two_right_2 : l__law_two_right_2 = sFor none [5, 6] (iR1 (aCons (eVar 2) (aNil))) (gNm 5) b__law_two_right_2 := hid_eq _
def b__law_two_right_3 : FS := sIf (eAnd (eTst (eBin (fun x y => (bIsN x y).map .bool) (eVar 7) (eC .none))) (eTru (eRetD (eCall0 m__law_carried (aCons (eVar 0) (aCons (eVar 1) (aCons (eTup (aCons (eVar 5) (aCons (eVar 6) (aNil)))) (aCons (eVar 2) (aCons (eVar 3) (aNil)))))))))) (sSet 7 (eTup (aCons (eVar 5) (aCons (eVar 6) (aNil))))) (sNx)
def lb__law_two_right_3 : FS := sFor none [6] (iR1 (aCons (eCB cLen (aCons (eVar 0) (aNil))) (aNil))) (gNm 6) b__law_two_right_3
def l__law_two_right_3 : FS := hid (lb__law_two_right_3)
theorem ll__law_two_right_3 : l__law_two_right_3 = sFor none [6] (iR1 (aCons (eCB cLen (aCons (eVar 0) (aNil))) (aNil))) (gNm 6) b__law_two_right_3 := hid_eq _
def b__law_two_right_4 : FS := l__law_two_right_3
def lb__law_two_right_4 : FS := sFor none [5, 6] (iR1 (aCons (eCB cLen (aCons (eBin dIx (eVar 0) (eC (.int 0))) (aNil))) (aNil))) (gNm 5) b__law_two_right_4
def l__law_two_right_4 : FS := hid (lb__law_two_right_4)
theorem ll__law_two_right_4 : l__law_two_right_4 = sFor none [5, 6] (iR1 (aCons (eCB cLen (aCons (eBin dIx (eVar 0) (eC (.int 0))) (aNil))) (aNil))) (gNm 5) b__law_two_right_4 := hid_eq _
def s__law_two_right : FS := sSeq (sSet 2 (eBin dFdiv (eBin dMulA (eCB cLen (aCons (eBin dIx (eVar 0) (eC (.int 0))) (aNil))) (eCB cLen (aCons (eBin dIx (eVar 1) (eC (.int 0))) (aNil)))) (eRetD (eCall0 m__law_divisor (aCons (eCB cLen (aCons (eBin dIx (eVar 0) (eC (.int 0))) (aNil))) (aCons (eCB cLen (aCons (eBin dIx (eVar 1) (eC (.int 0))) (aNil))) (aNil)))))))
  (sSeq (sSet 3 (eBin dFdiv (eBin dMulA (eCB cLen (aCons (eVar 0) (aNil))) (eCB cLen (aCons (eVar 1) (aNil)))) (eRetD (eCall0 m__law_divisor (aCons (eCB cLen (aCons (eVar 0) (aNil))) (aCons (eCB cLen (aCons (eVar 1) (aNil))) (aNil)))))))
  (sSeq (sSet 4 (eC .none))
  (sSeq (l__law_two_right_2)
  (sSeq (sSet 7 (eC .none))
  (sSeq (l__law_two_right_4)
  (sRet (eAndV (eRetD (eCall0 (m__law_same 12) (aCons (eRetD (eCall0 m_same_pattern (aCons (eVar 0) (aCons (eVar 1) (aNil))))) (aCons (eVar 4) (aNil))))) (eRetD (eCall0 (m__law_same 12) (aCons (eRetD (eCall0 m_moved_alike (aCons (eVar 0) (aCons (eVar 1) (aNil))))) (aCons (eVar 7) (aNil))))))))))))
def mb__law_two_right : FnS := fnSem 8 [] s__law_two_right
def m__law_two_right : FnS := hid mb__law_two_right
theorem mm__law_two_right : m__law_two_right = fnSem 8 [] s__law_two_right := hid_eq _
instance : FnIs m__law_two_right 8 [] s__law_two_right := ⟨mm__law_two_right⟩
theorem ok__law_two_right (S : Src K mg "_law_two_right" t__law_two_right ["one", "other"]) (h__law_carried : Cal P w K mg base 2 "_law_carried" ["one", "other", "step", "wide", "high"] [] m__law_carried) (h__law_divisor : Cal P w K mg base 1 "_law_divisor" ["one", "other"] [] m__law_divisor) (h__law_same : Cal P w K mg base 12 "_law_same" ["actual", "due"] [] (m__law_same 12)) (h__law_sign : Cal P w K mg base 1 "_law_sign" ["rows", "x", "y"] [] m__law_sign) (h_moved_alike : Cal P w K mg base 3 "moved_alike" ["one", "other"] [] m_moved_alike) (h_same_pattern : Cal P w K mg base 3 "same_pattern" ["one", "other"] [] m_same_pattern) (z_len : mg "len" = none) (z_range : mg "range" = none) : Cal P w K mg base 13 "_law_two_right" ["one", "other"] [] m__law_two_right := by
  rw [mm__law_two_right]
  exact pd_cal (k := 12) [] S sc__law_two_right rfl (body := s__law_two_right) (fun f cdv A outer s H E hr => ⟨_, dss_cons (ds_set sc__law_two_right.nd (de_bin op_fdivD v_fdiv (de_bin op_mulA v_mulA (de_callB call_len a_len z_len (da_cons (de_ix (de_var 0) (de_int)) (da_nil))) (de_callB call_len a_len z_len (da_cons (de_ix (de_var 1) (de_int)) (da_nil)))) ((dc_cal0 h__law_divisor (hr.mono (by first | exact Nat.le_refl _ | decide | omega)) (da_cons (de_callB call_len a_len z_len (da_cons (de_ix (de_var 0) (de_int)) (da_nil))) (da_cons (de_callB call_len a_len z_len (da_cons (de_ix (de_var 1) (de_int)) (da_nil))) (da_nil))) (aLen_cons (aLen_cons (aLen_nil)))).de)) (i := 2))
  (dss_cons (ds_set sc__law_two_right.nd (de_bin op_fdivD v_fdiv (de_bin op_mulA v_mulA (de_callB call_len a_len z_len (da_cons (de_var 0) (da_nil))) (de_callB call_len a_len z_len (da_cons (de_var 1) (da_nil)))) ((dc_cal0 h__law_divisor (hr.mono (by first | exact Nat.le_refl _ | decide | omega)) (da_cons (de_callB call_len a_len z_len (da_cons (de_var 0) (da_nil))) (da_cons (de_callB call_len a_len z_len (da_cons (de_var 1) (da_nil))) (da_nil))) (aLen_cons (aLen_cons (aLen_nil)))).de)) (i := 3))
  (dss_cons (ds_set sc__law_two_right.nd (de_non) (i := 4))
  (dss_cons (ds_hid (ll__law_two_right_2) (ds_for [5, 6] PassesOwn.never rfl (di_range1 (da_cons (de_var 2) (da_nil)) z_range) (dg_name 5 sc__law_two_right.nd) (dss_one (ds_hid (ll__law_two_right_1) (ds_for [6] PassesOwn.never rfl (di_range1 (da_cons (de_var 3) (da_nil)) z_range) (dg_name 6 sc__law_two_right.nd) (dss_one (ds_if ((dw_and (dt_cmp (op_isNB) v_dat (de_var 4) (de_non)) (dw_and1 (dt_cmp (op_neB (hu_of' hr)) v_dat ((dc_cal0 h__law_sign (hr.mono (by first | exact Nat.le_refl _ | decide | omega)) (da_cons (de_var 0) (da_cons (de_var 5) (da_cons (de_var 6) (da_nil)))) (aLen_cons (aLen_cons (aLen_cons (aLen_nil))))).de) ((dc_cal0 h__law_sign (hr.mono (by first | exact Nat.le_refl _ | decide | omega)) (da_cons (de_var 1) (da_cons (de_var 5) (da_cons (de_var 6) (da_nil)))) (aLen_cons (aLen_cons (aLen_cons (aLen_nil))))).de)))).dt) (dss_one (ds_set sc__law_two_right.nd (de_tup (da_cons (de_var 5) (da_cons (de_var 6) (da_nil)))) (i := 4))) (dss_nil))))))))
  (dss_cons (ds_set sc__law_two_right.nd (de_non) (i := 7))
  (dss_cons (ds_hid (ll__law_two_right_4) (ds_for [5, 6] PassesOwn.never rfl (di_range1 (da_cons (de_callB call_len a_len z_len (da_cons (de_ix (de_var 0) (de_int)) (da_nil))) (da_nil)) z_range) (dg_name 5 sc__law_two_right.nd) (dss_one (ds_hid (ll__law_two_right_3) (ds_for [6] PassesOwn.never rfl (di_range1 (da_cons (de_callB call_len a_len z_len (da_cons (de_var 0) (da_nil))) (da_nil)) z_range) (dg_name 6 sc__law_two_right.nd) (dss_one (ds_if ((dw_and (dt_cmp (op_isNB) v_dat (de_var 7) (de_non)) (dw_and1 (dt_tru ((dc_cal0 h__law_carried (hr.mono (by first | exact Nat.le_refl _ | decide | omega)) (da_cons (de_var 0) (da_cons (de_var 1) (da_cons (de_tup (da_cons (de_var 5) (da_cons (de_var 6) (da_nil)))) (da_cons (de_var 2) (da_cons (de_var 3) (da_nil)))))) (aLen_cons (aLen_cons (aLen_cons (aLen_cons (aLen_cons (aLen_nil))))))).de)))).dt) (dss_one (ds_set sc__law_two_right.nd (de_tup (da_cons (de_var 5) (da_cons (de_var 6) (da_nil)))) (i := 7))) (dss_nil))))))))
  (dss_one (ds_ret (de_and ((dc_cal0 h__law_same (hr.mono (by first | exact Nat.le_refl _ | decide | omega)) (da_cons ((dc_cal0 h_same_pattern (hr.mono (by first | exact Nat.le_refl _ | decide | omega)) (da_cons (de_var 0) (da_cons (de_var 1) (da_nil))) (aLen_cons (aLen_cons (aLen_nil)))).de) (da_cons (de_var 4) (da_nil))) (aLen_cons (aLen_cons (aLen_nil)))).de) (de_one ((dc_cal0 h__law_same (hr.mono (by first | exact Nat.le_refl _ | decide | omega)) (da_cons ((dc_cal0 h_moved_alike (hr.mono (by first | exact Nat.le_refl _ | decide | omega)) (da_cons (de_var 0) (da_cons (de_var 1) (da_nil))) (aLen_cons (aLen_cons (aLen_nil)))).de) (da_cons (de_var 7) (da_nil))) (aLen_cons (aLen_cons (aLen_nil)))).de))))))))))⟩)
/-! ### added -/
abbrev t_added : Stmt := topS 3
theorem sc_added : FnScope ["base", "step", "one", "other", "whole"] ["base", "step"] (defScope t_added) := ⟨rfl, rfl, rfl, by decide +kernel, rfl, by decide +kernel, by decide +kernel⟩
def b_added_1 : FS := sSeq (sSet 4 (eBin dFdiv (eBin dIx (eVar 2) (eC (.int 0))) (eBin dIx (eVar 3) (eC (.int 0)))))
  (sPar 2 3 (aCons (eVar 3) (aCons (eTup (aCons (eBin dSub (eBin dIx (eVar 2) (eC (.int 0))) (eBin dMulA (eVar 4) (eBin dIx (eVar 3) (eC (.int 0))))) (aCons (eBin dSub (eBin dIx (eVar 2) (eC (.int 1))) (eBin dMulA (eVar 4) (eBin dIx (eVar 3) (eC (.int 1))))) (aNil)))) (aNil))))
def lb_added_1 : FS := sWhile [4] (eTst (eBin (fun x y => (bNe x y).map .bool) (eBin dIx (eVar 3) (eC (.int 0))) (eC (.int 0)))) b_added_1
def l_added_1 : FS := hid (lb_added_1)
theorem ll_added_1 : l_added_1 = sWhile [4] (eTst (eBin (fun x y => (bNe x y).map .bool) (eBin dIx (eVar 3) (eC (.int 0))) (eC (.int 0)))) b_added_1 := hid_eq _
def s_added : FS := sSeq (sPar 2 3 (aCons (eBin dIx (eVar 0) (eC (.int 0))) (aCons (eVar 1) (aNil))))
  (sSeq (l_added_1)
  (sRet (eTup (aCons (eVar 2) (aCons (eTup (aCons (eC (.int 0)) (aCons (eRetD (eCall0 m_divisor (aCons (eBin dIx (eBin dIx (eVar 0) (eC (.int 1))) (eC (.int 1))) (aCons (eBin dIx (eVar 3) (eC (.int 1))) (aNil))))) (aNil)))) (aNil))))))
def mb_added : FnS := fnSem 5 [] s_added
def m_added : FnS := hid mb_added
theorem mm_added : m_added = fnSem 5 [] s_added := hid_eq _
instance : FnIs m_added 5 [] s_added := ⟨mm_added⟩
theorem ok_added (S : Src K mg "added" t_added ["base", "step"]) (h_divisor : Cal P w K mg base 1 "divisor" ["one", "other"] [] m_divisor) : Cal P w K mg base 2 "added" ["base", "step"] [] m_added := by
  rw [mm_added]
  exact pd_cal (k := 1) [] S sc_added rfl (body := s_added) (fun f cdv A outer s H E hr => ⟨_, dss_cons (ds_par rfl sc_added.nd (da_cons (de_ix (de_var 0) (de_int)) (da_cons (de_var 1) (da_nil))) (i := 2) (j := 3))
  (dss_cons (ds_hid (ll_added_1) (ds_while [4] PassesOwn.never (dt_cmp (op_neB (hu_of' hr)) v_dat (de_ix (de_var 3) (de_int)) (de_int)) (dss_cons (ds_set sc_added.nd (de_bin op_fdivD v_fdiv (de_ix (de_var 2) (de_int)) (de_ix (de_var 3) (de_int))) (i := 4))
  (dss_one (ds_par rfl sc_added.nd (da_cons (de_var 3) (da_cons (de_tup (da_cons (de_bin op_sub v_sub (de_ix (de_var 2) (de_int)) (de_bin op_mulA v_mulA (de_var 4) (de_ix (de_var 3) (de_int)))) (da_cons (de_bin op_sub v_sub (de_ix (de_var 2) (de_int)) (de_bin op_mulA v_mulA (de_var 4) (de_ix (de_var 3) (de_int)))) (da_nil)))) (da_nil))) (i := 2) (j := 3))))))
  (dss_one (ds_ret (de_tup (da_cons (de_var 2) (da_cons (de_tup (da_cons (de_int) (da_cons ((dc_cal0 h_divisor (hr.mono (by first | exact Nat.le_refl _ | decide | omega)) (da_cons (de_ix (de_ix (de_var 0) (de_int)) (de_int)) (da_cons (de_ix (de_var 3) (de_int)) (da_nil))) (aLen_cons (aLen_cons (aLen_nil)))).de) (da_nil)))) (da_nil)))))))⟩)
/-! ### base_of -/
abbrev t_base_of : Stmt := topS 4
theorem sc_base_of : FnScope ["steps", "base", "step", "a", "b", "zero", "d"] ["steps"] (defScope t_base_of) := ⟨rfl, rfl, rfl, by decide +kernel, rfl, by decide +kernel, by decide +kernel⟩
def b_base_of_1 : FS := sSet 1 (eRetD (eCall0 m_added (aCons (eVar 1) (aCons (eVar 2) (aNil)))))
def lb_base_of_1 : FS := sFor none [2] (iSq (eVar 0)) (gNm 2) b_base_of_1
def l_base_of_1 : FS := hid (lb_base_of_1)
theorem ll_base_of_1 : l_base_of_1 = sFor none [2] (iSq (eVar 0)) (gNm 2) b_base_of_1 := hid_eq _
def s_base_of : FS := sSeq (sSet 1 (eTup (aCons (eTup (aCons (eC (.int 0)) (aCons (eC (.int 0)) (aNil)))) (aCons (eTup (aCons (eC (.int 0)) (aCons (eC (.int 0)) (aNil)))) (aNil)))))
  (sSeq (l_base_of_1)
  (sSeq (sAsg (eVar 1) (gTp 2 (gCn (gTp 2 (gCn (gNm 3) (gCn (gNm 4) (gNl)))) (gCn (gTp 2 (gCn (gNm 5) (gCn (gNm 6) (gNl)))) (gNl)))))
  (sSeq (sIf (eOr (eTst (eBin (fun x y => (bEq x y).map .bool) (eVar 3) (eC (.int 0)))) (eTst (eBin (fun x y => (bEq x y).map .bool) (eVar 6) (eC (.int 0))))) (sRet (eC .none)) (sNx))
  (sSeq (sIf (eTst (eBin (fun x y => (bLt x y).map .bool) (eVar 3) (eC (.int 0)))) (sPar 3 4 (aCons (eUn dNeg (eVar 3)) (aCons (eUn dNeg (eVar 4)) (aNil)))) (sNx))
  (sRet (eTup (aCons (eTup (aCons (eVar 3) (aCons (eBin dMod (eVar 4) (eVar 6)) (aNil)))) (aCons (eTup (aCons (eC (.int 0)) (aCons (eVar 6) (aNil)))) (aNil)))))))))
def mb_base_of : FnS := fnSem 7 [] s_base_of
def m_base_of : FnS := hid mb_base_of
theorem mm_base_of : m_base_of = fnSem 7 [] s_base_of := hid_eq _
instance : FnIs m_base_of 7 [] s_base_of := ⟨mm_base_of⟩
theorem ok_base_of (S : Src K mg "base_of" t_base_of ["steps"]) (h_added : Cal P w K mg base 2 "added" ["base", "step"] [] m_added) : Cal P w K mg base 3 "base_of" ["steps"] [] m_base_of := by
  rw [mm_base_of]
  exact pd_cal (k := 2) [] S sc_base_of rfl (body := s_base_of) (fun f cdv A outer s H E hr => ⟨_, dss_cons (ds_set sc_base_of.nd (de_tup (da_cons (de_tup (da_cons (de_int) (da_cons (de_int) (da_nil)))) (da_cons (de_tup (da_cons (de_int) (da_cons (de_int) (da_nil)))) (da_nil)))) (i := 1))
  (dss_cons (ds_hid (ll_base_of_1) (ds_for [2] PassesOwn.never rfl (di_sq (de_var 0)) (dg_name 2 sc_base_of.nd) (dss_one (ds_set sc_base_of.nd ((dc_cal0 h_added (hr.mono (by first | exact Nat.le_refl _ | decide | omega)) (da_cons (de_var 1) (da_cons (de_var 2) (da_nil))) (aLen_cons (aLen_cons (aLen_nil)))).de) (i := 1)))))
  (dss_cons (ds_asg (de_var 1) (dg_tup rfl (dgs_cons (dg_tup rfl (dgs_cons (dg_name 3 sc_base_of.nd) (dgs_cons (dg_name 4 sc_base_of.nd) (dgs_nil)))) (dgs_cons (dg_tup rfl (dgs_cons (dg_name 5 sc_base_of.nd) (dgs_cons (dg_name 6 sc_base_of.nd) (dgs_nil)))) (dgs_nil)))))
  (dss_cons (ds_if ((dw_or (dt_cmp (op_eqB (hu_of' hr)) v_dat (de_var 3) (de_int)) (dw_or1 (dt_cmp (op_eqB (hu_of' hr)) v_dat (de_var 6) (de_int)))).dt) (dss_one (ds_ret (de_non))) (dss_nil))
  (dss_cons (ds_if (dt_cmp (op_ltB (hu_of' hr)) v_dat (de_var 3) (de_int)) (dss_one (ds_par rfl sc_base_of.nd (da_cons (de_un un_neg v_neg (de_var 3)) (da_cons (de_un un_neg v_neg (de_var 4)) (da_nil))) (i := 3) (j := 4))) (dss_nil))
  (dss_one (ds_ret (de_tup (da_cons (de_tup (da_cons (de_var 3) (da_cons (de_bin op_modN v_mod (de_var 4) (de_var 6)) (da_nil)))) (da_cons (de_tup (da_cons (de_int) (da_cons (de_var 6) (da_nil)))) (da_nil))))))))))⟩)
/-! ### steps_of -/
abbrev t_steps_of : Stmt := topS 10
theorem sc_steps_of : FnScope ["rows", "high", "wide", "steps", "x", "y"] ["rows"] (defScope t_steps_of) := ⟨rfl, rfl, rfl, by decide +kernel, rfl, by decide +kernel, by decide +kernel⟩
def b_steps_of_1 : FS := sIf (eTru (eRetD (eCall0 m_is_moved_by (aCons (eVar 0) (aCons (eVar 0) (aCons (eTup (aCons (eVar 4) (aCons (eVar 5) (aNil)))) (aCons (eVar 2) (aCons (eVar 1) (aNil))))))))) (sExpr (eMeth 3 lAppend (aCons (eTup (aCons (eVar 4) (aCons (eVar 5) (aNil)))) (aNil)))) (sNx)
def lb_steps_of_1 : FS := sFor none [5] (iR1 (aCons (eVar 1) (aNil))) (gNm 5) b_steps_of_1
def l_steps_of_1 : FS := hid (lb_steps_of_1)
theorem ll_steps_of_1 : l_steps_of_1 = sFor none [5] (iR1 (aCons (eVar 1) (aNil))) (gNm 5) b_steps_of_1 := hid_eq _
def b_steps_of_2 : FS := l_steps_of_1
def lb_steps_of_2 : FS := sFor none [4, 5] (iR1 (aCons (eVar 2) (aNil))) (gNm 4) b_steps_of_2
def l_steps_of_2 : FS := hid (lb_steps_of_2)
theorem ll_steps_of_2 : l_steps_of_2 = sFor none [4, 5] (iR1 (aCons (eVar 2) (aNil))) (gNm 4) b_steps_of_2 := hid_eq _
def s_steps_of : FS := sSeq (sPar 1 2 (aCons (eCB cLen (aCons (eVar 0) (aNil))) (aCons (eCB cLen (aCons (eBin dIx (eVar 0) (eC (.int 0))) (aNil))) (aNil))))
  (sSeq (sSetN 3 (eLst (aCons (eTup (aCons (eVar 2) (aCons (eC (.int 0)) (aNil)))) (aCons (eTup (aCons (eC (.int 0)) (aCons (eVar 1) (aNil)))) (aNil)))))
  (sSeq (l_steps_of_2)
  (sRet (eRetD (eCall0 m_base_of (aCons (eCB cTuple (aCons (eVar 3) (aNil))) (aNil)))))))
def mb_steps_of : FnS := fnSem 6 [] s_steps_of
def m_steps_of : FnS := hid mb_steps_of
theorem mm_steps_of : m_steps_of = fnSem 6 [] s_steps_of := hid_eq _
instance : FnIs m_steps_of 6 [] s_steps_of := ⟨mm_steps_of⟩
theorem ok_steps_of (S : Src K mg "steps_of" t_steps_of ["rows"]) (h_base_of : Cal P w K mg base 3 "base_of" ["steps"] [] m_base_of) (h_is_moved_by : Cal P w K mg base 2 "is_moved_by" ["one", "other", "step", "wide", "high"] [] m_is_moved_by) (z_len : mg "len" = none) (z_range : mg "range" = none) (z_tuple : mg "tuple" = none) : Cal P w K mg base 4 "steps_of" ["rows"] [] m_steps_of := by
  rw [mm_steps_of]
  exact pd_cal (k := 3) [] S sc_steps_of rfl (body := s_steps_of) (fun f cdv A outer s H E hr => ⟨_, dss_cons (ds_par rfl sc_steps_of.nd (da_cons (de_callB call_len a_len z_len (da_cons (de_var 0) (da_nil))) (da_cons (de_callB call_len a_len z_len (da_cons (de_ix (de_var 0) (de_int)) (da_nil))) (da_nil))) (i := 1) (j := 2))
  (dss_cons (ds_setN sc_steps_of.nd (dn_lst (da_cons (de_tup (da_cons (de_var 2) (da_cons (de_int) (da_nil)))) (da_cons (de_tup (da_cons (de_int) (da_cons (de_var 1) (da_nil)))) (da_nil)))) (i := 3))
  (dss_cons (ds_hid (ll_steps_of_2) (ds_for [4, 5] PassesOwn.never rfl (di_range1 (da_cons (de_var 2) (da_nil)) z_range) (dg_name 4 sc_steps_of.nd) (dss_one (ds_hid (ll_steps_of_1) (ds_for [5] PassesOwn.never rfl (di_range1 (da_cons (de_var 1) (da_nil)) z_range) (dg_name 5 sc_steps_of.nd) (dss_one (ds_if (dt_tru ((dc_cal0 h_is_moved_by (hr.mono (by first | exact Nat.le_refl _ | decide | omega)) (da_cons (de_var 0) (da_cons (de_var 0) (da_cons (de_tup (da_cons (de_var 4) (da_cons (de_var 5) (da_nil)))) (da_cons (de_var 2) (da_cons (de_var 1) (da_nil)))))) (aLen_cons (aLen_cons (aLen_cons (aLen_cons (aLen_cons (aLen_nil))))))).de)) (dss_one (ds_expr (de_lm (j := 3) PySem.F.slot_list_append PySem.F.type_list_append mt_append l_append (da_cons (de_tup (da_cons (de_var 4) (da_cons (de_var 5) (da_nil)))) (da_nil))))) (dss_nil))))))))
  (dss_one (ds_ret ((dc_cal0 h_base_of (hr.mono (by first | exact Nat.le_refl _ | decide | omega)) (da_cons (de_callTy call_tuple_of a_tuple z_tuple (da_cons (de_var 3) (da_nil))) (da_nil)) (aLen_cons (aLen_nil))).de)))))⟩)
/-! ### _law_is_base -/
abbrev t__law_is_base : Stmt := topS 22
theorem sc__law_is_base : FnScope ["told", "step", "number"] ["told"] (defScope t__law_is_base) := ⟨rfl, rfl, rfl, by decide +kernel, rfl, by decide +kernel, by decide +kernel⟩
def b__law_is_base_1 : FS := sIf (eOr (eNot (eTru (eIsi "int" (eVar 2)))) (eTru (eIsi "bool" (eVar 2)))) (sRet (eC (.bool false))) (sNx)
def lb__law_is_base_1 : FS := sFor none [2] (iSq (eVar 1)) (gNm 2) b__law_is_base_1
def l__law_is_base_1 : FS := hid (lb__law_is_base_1)
theorem ll__law_is_base_1 : l__law_is_base_1 = sFor none [2] (iSq (eVar 1)) (gNm 2) b__law_is_base_1 := hid_eq _
def b__law_is_base_2 : FS := sSeq (sIf (eOr (eNot (eTru (eIsi "tuple" (eVar 1)))) (eTst (eBin (fun x y => (bNe x y).map .bool) (eCB cLen (aCons (eVar 1) (aNil))) (eC (.int 2))))) (sRet (eC (.bool false))) (sNx))
  (l__law_is_base_1)
def lb__law_is_base_2 : FS := sFor none [1, 2] (iSq (eVar 0)) (gNm 1) b__law_is_base_2
def l__law_is_base_2 : FS := hid (lb__law_is_base_2)
theorem ll__law_is_base_2 : l__law_is_base_2 = sFor none [1, 2] (iSq (eVar 0)) (gNm 1) b__law_is_base_2 := hid_eq _
def s__law_is_base : FS := sSeq (sIf (eOr (eNot (eTru (eIsi "tuple" (eVar 0)))) (eTst (eBin (fun x y => (bNe x y).map .bool) (eCB cLen (aCons (eVar 0) (aNil))) (eC (.int 2))))) (sRet (eC (.bool false))) (sNx))
  (sSeq (l__law_is_base_2)
  (sRet (eAndV (eBin (fun x y => (bGe x y).map .bool) (eBin dIx (eBin dIx (eVar 0) (eC (.int 0))) (eC (.int 0))) (eC (.int 1))) (eAndV (eBin (fun x y => (bEq x y).map .bool) (eBin dIx (eBin dIx (eVar 0) (eC (.int 1))) (eC (.int 0))) (eC (.int 0))) (eChain (fun x y => (bLe x y).map .bool) (fun x y => (bLt x y).map .bool) (eC (.int 0)) (eBin dIx (eBin dIx (eVar 0) (eC (.int 0))) (eC (.int 1))) (eBin dIx (eBin dIx (eVar 0) (eC (.int 1))) (eC (.int 1))))))))
def mb__law_is_base : FnS := fnSem 3 [] s__law_is_base
def m__law_is_base : FnS := hid mb__law_is_base
theorem mm__law_is_base : m__law_is_base = fnSem 3 [] s__law_is_base := hid_eq _
instance : FnIs m__law_is_base 3 [] s__law_is_base := ⟨mm__law_is_base⟩
theorem ok__law_is_base (S : Src K mg "_law_is_base" t__law_is_base ["told"]) (z_bool : mg "bool" = none) (z_int : mg "int" = none) (z_isinstance : mg "isinstance" = none) (z_len : mg "len" = none) (z_tuple : mg "tuple" = none) : Cal P w K mg base 1 "_law_is_base" ["told"] [] m__law_is_base := by
  rw [mm__law_is_base]
  exact pd_cal (k := 0) [] S sc__law_is_base rfl (body := s__law_is_base) (fun f cdv A outer s H E hr => ⟨_, dss_cons (ds_if ((dw_or (dt_not (dt_tru (de_isi (de_var 0) z_isinstance z_tuple))) (dw_or1 (dt_cmp (op_neB (hu_of' hr)) v_dat (de_callB call_len a_len z_len (da_cons (de_var 0) (da_nil))) (de_int)))).dt) (dss_one (ds_ret (de_bl))) (dss_nil))
  (dss_cons (ds_hid (ll__law_is_base_2) (ds_for [1, 2] PassesOwn.never rfl (di_sq (de_var 0)) (dg_name 1 sc__law_is_base.nd) (dss_cons (ds_if ((dw_or (dt_not (dt_tru (de_isi (de_var 1) z_isinstance z_tuple))) (dw_or1 (dt_cmp (op_neB (hu_of' hr)) v_dat (de_callB call_len a_len z_len (da_cons (de_var 1) (da_nil))) (de_int)))).dt) (dss_one (ds_ret (de_bl))) (dss_nil))
  (dss_one (ds_hid (ll__law_is_base_1) (ds_for [2] PassesOwn.never rfl (di_sq (de_var 1)) (dg_name 2 sc__law_is_base.nd) (dss_one (ds_if ((dw_or (dt_not (dt_tru (de_isi (de_var 2) z_isinstance z_int))) (dw_or1 (dt_tru (de_isi (de_var 2) z_isinstance z_bool)))).dt) (dss_one (ds_ret (de_bl))) (dss_nil)))))))))
  (dss_one (ds_ret (de_and (de_cmp (op_geB (hu_of' hr)) v_dat (de_ix (de_ix (de_var 0) (de_int)) (de_int)) (de_int)) (de_and (de_cmp (op_eqB (hu_of' hr)) v_dat (de_ix (de_ix (de_var 0) (de_int)) (de_int)) (de_int)) (de_one (de_chain (op_leB (hu_of' hr)) v_dat (op_ltB (hu_of' hr)) v_dat (de_int) (de_ix (de_ix (de_var 0) (de_int)) (de_int)) (de_ix (de_ix (de_var 0) (de_int)) (de_int)))))))))⟩)
/-! ### _law_has -/
abbrev t__law_has : Stmt := topS 21
theorem sc__law_has : FnScope ["base", "step", "a"] ["base", "step"] (defScope t__law_has) := ⟨rfl, rfl, rfl, by decide +kernel, rfl, by decide +kernel, by decide +kernel⟩
def s__law_has : FS := sSeq (sSet 2 (eBin dIx (eBin dIx (eVar 0) (eC (.int 0))) (eC (.int 0))))
  (sSeq (sIf (eTst (eBin (fun x y => (bNe x y).map .bool) (eBin dMod (eCB cInt (aCons (eBin dIx (eVar 1) (eC (.int 0))) (aNil))) (eVar 2)) (eC (.int 0)))) (sRet (eC (.bool false))) (sNx))
  (sRet (eBin (fun x y => (bEq x y).map .bool) (eBin dMod (eCB cInt (aCons (eBin dSub (eBin dIx (eVar 1) (eC (.int 1))) (eBin dMulA (eBin dFdiv (eBin dIx (eVar 1) (eC (.int 0))) (eVar 2)) (eBin dIx (eBin dIx (eVar 0) (eC (.int 0))) (eC (.int 1))))) (aNil))) (eBin dIx (eBin dIx (eVar 0) (eC (.int 1))) (eC (.int 1)))) (eC (.int 0)))))
def mb__law_has : FnS := fnSem 3 [] s__law_has
def m__law_has : FnS := hid mb__law_has
theorem mm__law_has : m__law_has = fnSem 3 [] s__law_has := hid_eq _
instance : FnIs m__law_has 3 [] s__law_has := ⟨mm__law_has⟩
theorem ok__law_has (S : Src K mg "_law_has" t__law_has ["base", "step"]) (z_int : mg "int" = none) : Cal P w K mg base 1 "_law_has" ["base", "step"] [] m__law_has := by
  rw [mm__law_has]
  exact pd_cal (k := 0) [] S sc__law_has rfl (body := s__law_has) (fun f cdv A outer s H E hr => ⟨_, dss_cons (ds_set sc__law_has.nd (de_ix (de_ix (de_var 0) (de_int)) (de_int)) (i := 2))
  (dss_cons (ds_if (dt_cmp (op_neB (hu_of' hr)) v_dat (de_bin op_modN v_mod (de_callTy call_intD a_int z_int (da_cons (de_ix (de_var 1) (de_int)) (da_nil))) (de_var 2)) (de_int)) (dss_one (ds_ret (de_bl))) (dss_nil))
  (dss_one (ds_ret (de_cmp (op_eqB (hu_of' hr)) v_dat (de_bin op_modN v_mod (de_callTy call_intD a_int z_int (da_cons (de_bin op_sub v_sub (de_ix (de_var 1) (de_int)) (de_bin op_mulA v_mulA (de_bin op_fdivD v_fdiv (de_ix (de_var 1) (de_int)) (de_var 2)) (de_ix (de_ix (de_var 0) (de_int)) (de_int)))) (da_nil))) (de_ix (de_ix (de_var 0) (de_int)) (de_int))) (de_int)))))⟩)
/-! ### _law_steps_right -/
abbrev t__law_steps_right : Stmt := topS 31
theorem sc__law_steps_right : FnScope ["rows", "wide", "high", "told", "x", "y"] ["rows"] (defScope t__law_steps_right) := ⟨rfl, rfl, rfl, by decide +kernel, rfl, by decide +kernel, by decide +kernel⟩
def b__law_steps_right_1 : FS := sIf (eTst (eBin (fun x y => (bNe x y).map .bool) (eRetD (eCall0 m__law_has (aCons (eVar 3) (aCons (eTup (aCons (eVar 4) (aCons (eVar 5) (aNil)))) (aNil))))) (eRetD (eCall0 m__law_carried (aCons (eVar 0) (aCons (eVar 0) (aCons (eTup (aCons (eVar 4) (aCons (eVar 5) (aNil)))) (aCons (eVar 1) (aCons (eVar 2) (aNil)))))))))) (sRet (eC (.bool false))) (sNx)
def lb__law_steps_right_1 : FS := sFor none [5] (iR1 (aCons (eVar 2) (aNil))) (gNm 5) b__law_steps_right_1
def l__law_steps_right_1 : FS := hid (lb__law_steps_right_1)
theorem ll__law_steps_right_1 : l__law_steps_right_1 = sFor none [5] (iR1 (aCons (eVar 2) (aNil))) (gNm 5) b__law_steps_right_1 := hid_eq _
def b__law_steps_right_2 : FS := l__law_steps_right_1
def lb__law_steps_right_2 : FS := sFor none [4, 5] (iR1 (aCons (eVar 1) (aNil))) (gNm 4) b__law_steps_right_2
def l__law_steps_right_2 : FS := hid (lb__law_steps_right_2)
theorem ll__law_steps_right_2 : l__law_steps_right_2 = sFor none [4, 5] (iR1 (aCons (eVar 1) (aNil))) (gNm 4) b__law_steps_right_2 := hid_eq _
def s__law_steps_right : FS := sSeq (sSet 1 (eCB cLen (aCons (eBin dIx (eVar 0) (eC (.int 0))) (aNil))))
  (sSeq (sSet 2 (eCB cLen (aCons (eVar 0) (aNil))))
  (sSeq (sSet 3 (eRetD (eCall0 m_steps_of (aCons (eVar 0) (aNil)))))
  (sSeq (sIf (eOr (eNot (eTru (eRetD (eCall0 m__law_is_base (aCons (eVar 3) (aNil)))))) (eOr (eNot (eTru (eRetD (eCall0 m__law_has (aCons (eVar 3) (aCons (eTup (aCons (eVar 1) (aCons (eC (.int 0)) (aNil)))) (aNil))))))) (eNot (eTru (eRetD (eCall0 m__law_has (aCons (eVar 3) (aCons (eTup (aCons (eC (.int 0)) (aCons (eVar 2) (aNil)))) (aNil))))))))) (sRet (eC (.bool false))) (sNx))
  (sSeq (l__law_steps_right_2)
  (sRet (eC (.bool true)))))))
def mb__law_steps_right : FnS := fnSem 6 [] s__law_steps_right
def m__law_steps_right : FnS := hid mb__law_steps_right
theorem mm__law_steps_right : m__law_steps_right = fnSem 6 [] s__law_steps_right := hid_eq _
instance : FnIs m__law_steps_right 6 [] s__law_steps_right := ⟨mm__law_steps_right⟩
theorem ok__law_steps_right (S : Src K mg "_law_steps_right" t__law_steps_right ["rows"]) (h__law_carried : Cal P w K mg base 2 "_law_carried" ["one", "other", "step", "wide", "high"] [] m__law_carried) (h__law_has : Cal P w K mg base 1 "_law_has" ["base", "step"] [] m__law_has) (h__law_is_base : Cal P w K mg base 1 "_law_is_base" ["told"] [] m__law_is_base) (h_steps_of : Cal P w K mg base 4 "steps_of" ["rows"] [] m_steps_of) (z_len : mg "len" = none) (z_range : mg "range" = none) : Cal P w K mg base 5 "_law_steps_right" ["rows"] [] m__law_steps_right := by
  rw [mm__law_steps_right]
  exact pd_cal (k := 4) [] S sc__law_steps_right rfl (body := s__law_steps_right) (fun f cdv A outer s H E hr => ⟨_, dss_cons (ds_set sc__law_steps_right.nd (de_callB call_len a_len z_len (da_cons (de_ix (de_var 0) (de_int)) (da_nil))) (i := 1))
  (dss_cons (ds_set sc__law_steps_right.nd (de_callB call_len a_len z_len (da_cons (de_var 0) (da_nil))) (i := 2))
  (dss_cons (ds_set sc__law_steps_right.nd ((dc_cal0 h_steps_of (hr.mono (by first | exact Nat.le_refl _ | decide | omega)) (da_cons (de_var 0) (da_nil)) (aLen_cons (aLen_nil))).de) (i := 3))
  (dss_cons (ds_if ((dw_or (dt_not (dt_tru ((dc_cal0 h__law_is_base (hr.mono (by first | exact Nat.le_refl _ | decide | omega)) (da_cons (de_var 3) (da_nil)) (aLen_cons (aLen_nil))).de))) (dw_or (dt_not (dt_tru ((dc_cal0 h__law_has (hr.mono (by first | exact Nat.le_refl _ | decide | omega)) (da_cons (de_var 3) (da_cons (de_tup (da_cons (de_var 1) (da_cons (de_int) (da_nil)))) (da_nil))) (aLen_cons (aLen_cons (aLen_nil)))).de))) (dw_or1 (dt_not (dt_tru ((dc_cal0 h__law_has (hr.mono (by first | exact Nat.le_refl _ | decide | omega)) (da_cons (de_var 3) (da_cons (de_tup (da_cons (de_int) (da_cons (de_var 2) (da_nil)))) (da_nil))) (aLen_cons (aLen_cons (aLen_nil)))).de)))))).dt) (dss_one (ds_ret (de_bl))) (dss_nil))
  (dss_cons (ds_hid (ll__law_steps_right_2) (ds_for [4, 5] PassesOwn.never rfl (di_range1 (da_cons (de_var 1) (da_nil)) z_range) (dg_name 4 sc__law_steps_right.nd) (dss_one (ds_hid (ll__law_steps_right_1) (ds_for [5] PassesOwn.never rfl (di_range1 (da_cons (de_var 2) (da_nil)) z_range) (dg_name 5 sc__law_steps_right.nd) (dss_one (ds_if (dt_cmp (op_neB (hu_of' hr)) v_dat ((dc_cal0 h__law_has (hr.mono (by first | exact Nat.le_refl _ | decide | omega)) (da_cons (de_var 3) (da_cons (de_tup (da_cons (de_var 4) (da_cons (de_var 5) (da_nil)))) (da_nil))) (aLen_cons (aLen_cons (aLen_nil)))).de) ((dc_cal0 h__law_carried (hr.mono (by first | exact Nat.le_refl _ | decide | omega)) (da_cons (de_var 0) (da_cons (de_var 0) (da_cons (de_tup (da_cons (de_var 4) (da_cons (de_var 5) (da_nil)))) (da_cons (de_var 1) (da_cons (de_var 2) (da_nil)))))) (aLen_cons (aLen_cons (aLen_cons (aLen_cons (aLen_cons (aLen_nil))))))).de)) (dss_one (ds_ret (de_bl))) (dss_nil))))))))
  (dss_one (ds_ret (de_bl)))))))⟩)
/-! ### _law_number -/
abbrev t__law_number : Stmt := topS 18
theorem sc__law_number : FnScope ["draws", "script", "kind", "number"] ["draws", "script"] (defScope t__law_number) := ⟨rfl, rfl, rfl, by decide +kernel, rfl, by decide +kernel, by decide +kernel⟩
def s__law_number : FS := sSeq (sSet 2 (eRetD (eCall1 0 0 m__law_take (rIo 0 (rCons (eC (.int 5)) (rNil))))))
  (sSeq (sSet 3 (eRetD (eCall1 0 0 m__law_take (rIo 0 (rCons (eC (.int 13)) (rNil))))))
  (sSeq (sIf (eTst (eBin (fun x y => (bEq x y).map .bool) (eVar 2) (eC (.int 0)))) (sSet 3 (eBin dAddA (eBin dMulA (eRetD (eCall1 0 0 m__law_take (rIo 0 (rCons (eC (.int 1000)) (rNil))))) (eBin dPow (eC (.int 10)) (eC (.int 12)))) (eRetD (eCall1 0 0 m__law_take (rIo 0 (rCons (eC (.int 1000)) (rNil))))))) (sNx))
  (sSeq (sIf (eAnd (eTst (eBin (fun x y => (bEq x y).map .bool) (eVar 2) (eC (.int 1)))) (eTst (eBin (fun x y => (bGt x y).map .bool) (eCB cLen (aCons (eVar 1) (aNil))) (eC (.int 0))))) (sSet 3 (eBin dMod (eCB cAbs (aCons (eCB cInt (aCons (eBin dIx (eVar 1) (eRetD (eCall1 0 0 m__law_take (rIo 0 (rCons (eCB cLen (aCons (eVar 1) (aNil))) (rNil)))))) (aNil))) (aNil))) (eBin dPow (eC (.int 10)) (eC (.int 40))))) (sNx))
  (sRet (eBin dMulA (eVar 3) (eBin dSub (eC (.int 1)) (eBin dMulA (eC (.int 2)) (eRetD (eCall1 0 0 m__law_take (rIo 0 (rCons (eC (.int 2)) (rNil))))))))))))
def mb__law_number : FnS := fnSem 4 [0] s__law_number
def m__law_number : FnS := hid mb__law_number
theorem mm__law_number : m__law_number = fnSem 4 [0] s__law_number := hid_eq _
instance : FnIs m__law_number 4 [0] s__law_number := ⟨mm__law_number⟩
theorem ok__law_number (S : Src K mg "_law_number" t__law_number ["draws", "script"]) (h__law_take : Cal P w K mg base 1 "_law_take" ["draws", "many"] [0] m__law_take) (z_abs : mg "abs" = none) (z_int : mg "int" = none) (z_len : mg "len" = none) : Cal P w K mg base 2 "_law_number" ["draws", "script"] [0] m__law_number := by
  rw [mm__law_number]
  exact pd_cal (k := 1) [0] S sc__law_number rfl (body := s__law_number) (fun f cdv A outer s H E hr => ⟨_, dss_cons (ds_set sc__law_number.nd ((dc_cal1 h__law_take (hr.mono (by first | exact Nat.le_refl _ | decide | omega)) (j := 0) (dr_io (dr_cons (de_int) (dr_nil)))).de) (i := 2))
  (dss_cons (ds_set sc__law_number.nd ((dc_cal1 h__law_take (hr.mono (by first | exact Nat.le_refl _ | decide | omega)) (j := 0) (dr_io (dr_cons (de_int) (dr_nil)))).de) (i := 3))
  (dss_cons (ds_if (dt_cmp (op_eqB (hu_of' hr)) v_dat (de_var 2) (de_int)) (dss_one (ds_set sc__law_number.nd (de_bin op_addA v_addA (de_bin op_mulA v_mulA ((dc_cal1 h__law_take (hr.mono (by first | exact Nat.le_refl _ | decide | omega)) (j := 0) (dr_io (dr_cons (de_int) (dr_nil)))).de) (de_bin op_powD v_pow (de_int) (de_int))) ((dc_cal1 h__law_take (hr.mono (by first | exact Nat.le_refl _ | decide | omega)) (j := 0) (dr_io (dr_cons (de_int) (dr_nil)))).de)) (i := 3))) (dss_nil))
  (dss_cons (ds_if ((dw_and (dt_cmp (op_eqB (hu_of' hr)) v_dat (de_var 2) (de_int)) (dw_and1 (dt_cmp (op_gtB (hu_of' hr)) v_dat (de_callB call_len a_len z_len (da_cons (de_var 1) (da_nil))) (de_int)))).dt) (dss_one (ds_set sc__law_number.nd (de_bin op_modN v_mod (de_callB call_abs a_abs z_abs (da_cons (de_callTy call_intD a_int z_int (da_cons (de_ix (de_var 1) ((dc_cal1 h__law_take (hr.mono (by first | exact Nat.le_refl _ | decide | omega)) (j := 0) (dr_io (dr_cons (de_callB call_len a_len z_len (da_cons (de_var 1) (da_nil))) (dr_nil)))).de)) (da_nil))) (da_nil))) (de_bin op_powD v_pow (de_int) (de_int))) (i := 3))) (dss_nil))
  (dss_one (ds_ret (de_bin op_mulA v_mulA (de_var 3) (de_bin op_sub v_sub (de_int) (de_bin op_mulA v_mulA (de_int) ((dc_cal1 h__law_take (hr.mono (by first | exact Nat.le_refl _ | decide | omega)) (j := 0) (dr_io (dr_cons (de_int) (dr_nil)))).de)))))))))⟩)
/-! ### _law_steps -/
abbrev t__law_steps : Stmt := topS 24
theorem sc__law_steps : FnScope ["draws", "script", "steps", "line", "first", "k", "step", "times"] ["draws", "script"] (defScope t__law_steps) := ⟨rfl, rfl, rfl, by decide +kernel, rfl, by decide +kernel, by decide +kernel⟩
def b__law_steps_1 : FS := sSeq (sSet 6 (eTup (aCons (eRetD (eCall1 0 0 m__law_number (rIo 0 (rCons (eVar 1) (rNil))))) (aCons (eRetD (eCall1 0 0 m__law_number (rIo 0 (rCons (eVar 1) (rNil))))) (aNil)))))
  (sSeq (sIf (eTst (eBin (fun x y => (bEq x y).map .bool) (eVar 3) (eC (.int 0)))) (sSeq (sSet 7 (eBin dSub (eRetD (eCall1 0 0 m__law_take (rIo 0 (rCons (eC (.int 9)) (rNil))))) (eC (.int 4))))
  (sSet 6 (eTup (aCons (eBin dMulA (eBin dIx (eVar 4) (eC (.int 0))) (eVar 7)) (aCons (eBin dMulA (eBin dIx (eVar 4) (eC (.int 1))) (eVar 7)) (aNil)))))) (sNx))
  (sSeq (sIf (eTst (eBin (fun x y => (bEq x y).map .bool) (eRetD (eCall1 0 0 m__law_take (rIo 0 (rCons (eC (.int 8)) (rNil))))) (eC (.int 0)))) (sSet 6 (eTup (aCons (eBin dIx (eVar 6) (eC (.int 0))) (aCons (eC (.int 0)) (aNil))))) (sNx))
  (sSeq (sIf (eTst (eBin (fun x y => (bEq x y).map .bool) (eRetD (eCall1 0 0 m__law_take (rIo 0 (rCons (eC (.int 8)) (rNil))))) (eC (.int 0)))) (sSet 6 (eTup (aCons (eC (.int 0)) (aCons (eBin dIx (eVar 6) (eC (.int 1))) (aNil))))) (sNx))
  (sExpr (eMeth 2 lAppend (aCons (eVar 6) (aNil)))))))
def lb__law_steps_1 : FS := sFor none [5, 6, 7] (iR1 (aCons (eRetD (eCall1 0 0 m__law_take (rIo 0 (rCons (eC (.int 7)) (rNil))))) (aNil))) (gNm 5) b__law_steps_1
def l__law_steps_1 : FS := hid (lb__law_steps_1)
theorem ll__law_steps_1 : l__law_steps_1 = sFor none [5, 6, 7] (iR1 (aCons (eRetD (eCall1 0 0 m__law_take (rIo 0 (rCons (eC (.int 7)) (rNil))))) (aNil))) (gNm 5) b__law_steps_1 := hid_eq _
def s__law_steps : FS := sSeq (sSetN 2 (eLst (aNil)))
  (sSeq (sSet 3 (eRetD (eCall1 0 0 m__law_take (rIo 0 (rCons (eC (.int 5)) (rNil))))))
  (sSeq (sSet 4 (eTup (aCons (eRetD (eCall1 0 0 m__law_number (rIo 0 (rCons (eVar 1) (rNil))))) (aCons (eRetD (eCall1 0 0 m__law_number (rIo 0 (rCons (eVar 1) (rNil))))) (aNil)))))
  (sSeq (l__law_steps_1)
  (sRet (eCB cTuple (aCons (eVar 2) (aNil)))))))
def mb__law_steps : FnS := fnSem 8 [0] s__law_steps
def m__law_steps : FnS := hid mb__law_steps
theorem mm__law_steps : m__law_steps = fnSem 8 [0] s__law_steps := hid_eq _
instance : FnIs m__law_steps 8 [0] s__law_steps := ⟨mm__law_steps⟩
theorem ok__law_steps (S : Src K mg "_law_steps" t__law_steps ["draws", "script"]) (h__law_number : Cal P w K mg base 2 "_law_number" ["draws", "script"] [0] m__law_number) (h__law_take : Cal P w K mg base 1 "_law_take" ["draws", "many"] [0] m__law_take) (z_range : mg "range" = none) (z_tuple : mg "tuple" = none) : Cal P w K mg base 3 "_law_steps" ["draws", "script"] [0] m__law_steps := by
  rw [mm__law_steps]
  exact pd_cal (k := 2) [0] S sc__law_steps rfl (body := s__law_steps) (fun f cdv A outer s H E hr => ⟨_, dss_cons (ds_setN sc__law_steps.nd (dn_lst (da_nil)) (i := 2))
  (dss_cons (ds_set sc__law_steps.nd ((dc_cal1 h__law_take (hr.mono (by first | exact Nat.le_refl _ | decide | omega)) (j := 0) (dr_io (dr_cons (de_int) (dr_nil)))).de) (i := 3))
  (dss_cons (ds_set sc__law_steps.nd (de_tup (da_cons ((dc_cal1 h__law_number (hr.mono (by first | exact Nat.le_refl _ | decide | omega)) (j := 0) (dr_io (dr_cons (de_var 1) (dr_nil)))).de) (da_cons ((dc_cal1 h__law_number (hr.mono (by first | exact Nat.le_refl _ | decide | omega)) (j := 0) (dr_io (dr_cons (de_var 1) (dr_nil)))).de) (da_nil)))) (i := 4))
  (dss_cons (ds_hid (ll__law_steps_1) (ds_for [5, 6, 7] PassesOwn.never rfl (di_range1 (da_cons ((dc_cal1 h__law_take (hr.mono (by first | exact Nat.le_refl _ | decide | omega)) (j := 0) (dr_io (dr_cons (de_int) (dr_nil)))).de) (da_nil)) z_range) (dg_name 5 sc__law_steps.nd) (dss_cons (ds_set sc__law_steps.nd (de_tup (da_cons ((dc_cal1 h__law_number (hr.mono (by first | exact Nat.le_refl _ | decide | omega)) (j := 0) (dr_io (dr_cons (de_var 1) (dr_nil)))).de) (da_cons ((dc_cal1 h__law_number (hr.mono (by first | exact Nat.le_refl _ | decide | omega)) (j := 0) (dr_io (dr_cons (de_var 1) (dr_nil)))).de) (da_nil)))) (i := 6))
  (dss_cons (ds_if (dt_cmp (op_eqB (hu_of' hr)) v_dat (de_var 3) (de_int)) (dss_cons (ds_set sc__law_steps.nd (de_bin op_sub v_sub ((dc_cal1 h__law_take (hr.mono (by first | exact Nat.le_refl _ | decide | omega)) (j := 0) (dr_io (dr_cons (de_int) (dr_nil)))).de) (de_int)) (i := 7))
  (dss_one (ds_set sc__law_steps.nd (de_tup (da_cons (de_bin op_mulA v_mulA (de_ix (de_var 4) (de_int)) (de_var 7)) (da_cons (de_bin op_mulA v_mulA (de_ix (de_var 4) (de_int)) (de_var 7)) (da_nil)))) (i := 6)))) (dss_nil))
  (dss_cons (ds_if (dt_cmp (op_eqB (hu_of' hr)) v_dat ((dc_cal1 h__law_take (hr.mono (by first | exact Nat.le_refl _ | decide | omega)) (j := 0) (dr_io (dr_cons (de_int) (dr_nil)))).de) (de_int)) (dss_one (ds_set sc__law_steps.nd (de_tup (da_cons (de_ix (de_var 6) (de_int)) (da_cons (de_int) (da_nil)))) (i := 6))) (dss_nil))
  (dss_cons (ds_if (dt_cmp (op_eqB (hu_of' hr)) v_dat ((dc_cal1 h__law_take (hr.mono (by first | exact Nat.le_refl _ | decide | omega)) (j := 0) (dr_io (dr_cons (de_int) (dr_nil)))).de) (de_int)) (dss_one (ds_set sc__law_steps.nd (de_tup (da_cons (de_int) (da_cons (de_ix (de_var 6) (de_int)) (da_nil)))) (i := 6))) (dss_nil))
  (dss_one (ds_expr (de_lm (j := 2) PySem.F.slot_list_append PySem.F.type_list_append mt_append l_append (da_cons (de_var 6) (da_nil)))))))))))
  (dss_one (ds_ret (de_callTy call_tuple_of a_tuple z_tuple (da_cons (de_var 2) (da_nil))))))))⟩)
/-! ### _law_small_base -/
abbrev t__law_small_base : Stmt := topS 25
theorem sc__law_small_base : FnScope ["draws", "d"] ["draws"] (defScope t__law_small_base) := ⟨rfl, rfl, rfl, by decide +kernel, rfl, by decide +kernel, by decide +kernel⟩
def s__law_small_base : FS := sSeq (sSet 1 (eBin dAddA (eC (.int 1)) (eRetD (eCall1 0 0 m__law_take (rIo 0 (rCons (eC (.int 4)) (rNil)))))))
  (sRet (eTup (aCons (eTup (aCons (eBin dAddA (eC (.int 1)) (eRetD (eCall1 0 0 m__law_take (rIo 0 (rCons (eC (.int 4)) (rNil)))))) (aCons (eRetD (eCall1 0 0 m__law_take (rIo 0 (rCons (eVar 1) (rNil))))) (aNil)))) (aCons (eTup (aCons (eC (.int 0)) (aCons (eVar 1) (aNil)))) (aNil)))))
def mb__law_small_base : FnS := fnSem 2 [0] s__law_small_base
def m__law_small_base : FnS := hid mb__law_small_base
theorem mm__law_small_base : m__law_small_base = fnSem 2 [0] s__law_small_base := hid_eq _
instance : FnIs m__law_small_base 2 [0] s__law_small_base := ⟨mm__law_small_base⟩
theorem ok__law_small_base (S : Src K mg "_law_small_base" t__law_small_base ["draws"]) (h__law_take : Cal P w K mg base 1 "_law_take" ["draws", "many"] [0] m__law_take) : Cal P w K mg base 2 "_law_small_base" ["draws"] [0] m__law_small_base := by
  rw [mm__law_small_base]
  exact pd_cal (k := 1) [0] S sc__law_small_base rfl (body := s__law_small_base) (fun f cdv A outer s H E hr => ⟨_, dss_cons (ds_set sc__law_small_base.nd (de_bin op_addA v_addA (de_int) ((dc_cal1 h__law_take (hr.mono (by first | exact Nat.le_refl _ | decide | omega)) (j := 0) (dr_io (dr_cons (de_int) (dr_nil)))).de)) (i := 1))
  (dss_one (ds_ret (de_tup (da_cons (de_tup (da_cons (de_bin op_addA v_addA (de_int) ((dc_cal1 h__law_take (hr.mono (by first | exact Nat.le_refl _ | decide | omega)) (j := 0) (dr_io (dr_cons (de_int) (dr_nil)))).de)) (da_cons ((dc_cal1 h__law_take (hr.mono (by first | exact Nat.le_refl _ | decide | omega)) (j := 0) (dr_io (dr_cons (de_var 1) (dr_nil)))).de) (da_nil)))) (da_cons (de_tup (da_cons (de_int) (da_cons (de_var 1) (da_nil)))) (da_nil))))))⟩)
/-! ### _law_index -/
abbrev t__law_index : Stmt := topS 20
theorem sc__law_index : FnScope ["steps", "index", "k", "j"] ["steps"] (defScope t__law_index) := ⟨rfl, rfl, rfl, by decide +kernel, rfl, by decide +kernel, by decide +kernel⟩
def b__law_index_1 : FS := sSet 1 (eRetD (eCall0 m__law_divisor (aCons (eBin dSub (eBin dMulA (eBin dIx (eBin dIx (eVar 0) (eVar 2)) (eC (.int 0))) (eBin dIx (eBin dIx (eVar 0) (eVar 3)) (eC (.int 1)))) (eBin dMulA (eBin dIx (eBin dIx (eVar 0) (eVar 2)) (eC (.int 1))) (eBin dIx (eBin dIx (eVar 0) (eVar 3)) (eC (.int 0))))) (aCons (eVar 1) (aNil)))))
def lb__law_index_1 : FS := sFor none [3] (iR1 (aCons (eVar 2) (aNil))) (gNm 3) b__law_index_1
def l__law_index_1 : FS := hid (lb__law_index_1)
theorem ll__law_index_1 : l__law_index_1 = sFor none [3] (iR1 (aCons (eVar 2) (aNil))) (gNm 3) b__law_index_1 := hid_eq _
def b__law_index_2 : FS := l__law_index_1
def lb__law_index_2 : FS := sFor none [2, 3] (iR1 (aCons (eCB cLen (aCons (eVar 0) (aNil))) (aNil))) (gNm 2) b__law_index_2
def l__law_index_2 : FS := hid (lb__law_index_2)
theorem ll__law_index_2 : l__law_index_2 = sFor none [2, 3] (iR1 (aCons (eCB cLen (aCons (eVar 0) (aNil))) (aNil))) (gNm 2) b__law_index_2 := hid_eq _
def s__law_index : FS := sSeq (sSet 1 (eC (.int 0)))
  (sSeq (l__law_index_2)
  (sRet (eVar 1)))
def mb__law_index : FnS := fnSem 4 [] s__law_index
def m__law_index : FnS := hid mb__law_index
theorem mm__law_index : m__law_index = fnSem 4 [] s__law_index := hid_eq _
instance : FnIs m__law_index 4 [] s__law_index := ⟨mm__law_index⟩
theorem ok__law_index (S : Src K mg "_law_index" t__law_index ["steps"]) (h__law_divisor : Cal P w K mg base 1 "_law_divisor" ["one", "other"] [] m__law_divisor) (z_len : mg "len" = none) (z_range : mg "range" = none) : Cal P w K mg base 2 "_law_index" ["steps"] [] m__law_index := by
  rw [mm__law_index]
  exact pd_cal (k := 1) [] S sc__law_index rfl (body := s__law_index) (fun f cdv A outer s H E hr => ⟨_, dss_cons (ds_set sc__law_index.nd (de_int) (i := 1))
  (dss_cons (ds_hid (ll__law_index_2) (ds_for [2, 3] PassesOwn.never rfl (di_range1 (da_cons (de_callB call_len a_len z_len (da_cons (de_var 0) (da_nil))) (da_nil)) z_range) (dg_name 2 sc__law_index.nd) (dss_one (ds_hid (ll__law_index_1) (ds_for [3] PassesOwn.never rfl (di_range1 (da_cons (de_var 2) (da_nil)) z_range) (dg_name 3 sc__law_index.nd) (dss_one (ds_set sc__law_index.nd ((dc_cal0 h__law_divisor (hr.mono (by first | exact Nat.le_refl _ | decide | omega)) (da_cons (de_bin op_sub v_sub (de_bin op_mulA v_mulA (de_ix (de_ix (de_var 0) (de_var 2)) (de_int)) (de_ix (de_ix (de_var 0) (de_var 3)) (de_int))) (de_bin op_mulA v_mulA (de_ix (de_ix (de_var 0) (de_var 2)) (de_int)) (de_ix (de_ix (de_var 0) (de_var 3)) (de_int)))) (da_cons (de_var 1) (da_nil))) (aLen_cons (aLen_cons (aLen_nil)))).de) (i := 1))))))))
  (dss_one (ds_ret (de_var 1))))⟩)
/-! ### _law_base_right -/
abbrev t__law_base_right : Stmt := topS 23
theorem sc__law_base_right : FnScope ["told", "steps", "index", "step"] ["told", "steps"] (defScope t__law_base_right) := ⟨rfl, rfl, rfl, by decide +kernel, rfl, by decide +kernel, by decide +kernel⟩
def kb__law_base_right_1 : FN := eComp none [3] (iSq (eVar 1)) (gNm 3) (eNot (eTru (eRetD (eCall0 m__law_has (aCons (eVar 0) (aCons (eVar 3) (aNil))))))) (eVar 3)
def k__law_base_right_1 : FN := hid (kb__law_base_right_1)
theorem kk__law_base_right_1 : k__law_base_right_1 = eComp none [3] (iSq (eVar 1)) (gNm 3) (eNot (eTru (eRetD (eCall0 m__law_has (aCons (eVar 0) (aCons (eVar 3) (aNil))))))) (eVar 3) := hid_eq _
def s__law_base_right : FS := sSeq (sSet 2 (eRetD (eCall0 m__law_index (aCons (eVar 1) (aNil)))))
  (sSeq (sIf (eTst (eBin (fun x y => (bEq x y).map .bool) (eVar 2) (eC (.int 0)))) (sRet (eBin (fun x y => (bIsN x y).map .bool) (eVar 0) (eC .none))) (sNx))
  (sSeq (sIf (eOr (eNot (eTru (eRetD (eCall0 m__law_is_base (aCons (eVar 0) (aNil)))))) (eTst (eBin (fun x y => (bNe x y).map .bool) (eBin dMulA (eBin dIx (eBin dIx (eVar 0) (eC (.int 0))) (eC (.int 0))) (eBin dIx (eBin dIx (eVar 0) (eC (.int 1))) (eC (.int 1)))) (eVar 2)))) (sRet (eC (.bool false))) (sNx))
  (sRet (eBin (fun x y => (bEq x y).map .bool) (eCB cLen (aCons (eFrz (k__law_base_right_1)) (aNil))) (eC (.int 0))))))
def mb__law_base_right : FnS := fnSem 4 [] s__law_base_right
def m__law_base_right : FnS := hid mb__law_base_right
theorem mm__law_base_right : m__law_base_right = fnSem 4 [] s__law_base_right := hid_eq _
instance : FnIs m__law_base_right 4 [] s__law_base_right := ⟨mm__law_base_right⟩
theorem ok__law_base_right (S : Src K mg "_law_base_right" t__law_base_right ["told", "steps"]) (h__law_has : Cal P w K mg base 1 "_law_has" ["base", "step"] [] m__law_has) (h__law_index : Cal P w K mg base 2 "_law_index" ["steps"] [] m__law_index) (h__law_is_base : Cal P w K mg base 1 "_law_is_base" ["told"] [] m__law_is_base) (z_len : mg "len" = none) : Cal P w K mg base 3 "_law_base_right" ["told", "steps"] [] m__law_base_right := by
  rw [mm__law_base_right]
  exact pd_cal (k := 2) [] S sc__law_base_right rfl (body := s__law_base_right) (fun f cdv A outer s H E hr => ⟨_, dss_cons (ds_set sc__law_base_right.nd ((dc_cal0 h__law_index (hr.mono (by first | exact Nat.le_refl _ | decide | omega)) (da_cons (de_var 1) (da_nil)) (aLen_cons (aLen_nil))).de) (i := 2))
  (dss_cons (ds_if (dt_cmp (op_eqB (hu_of' hr)) v_dat (de_var 2) (de_int)) (dss_one (ds_ret (de_cmp (op_isNB) v_dat (de_var 0) (de_non)))) (dss_nil))
  (dss_cons (ds_if ((dw_or (dt_not (dt_tru ((dc_cal0 h__law_is_base (hr.mono (by first | exact Nat.le_refl _ | decide | omega)) (da_cons (de_var 0) (da_nil)) (aLen_cons (aLen_nil))).de))) (dw_or1 (dt_cmp (op_neB (hu_of' hr)) v_dat (de_bin op_mulA v_mulA (de_ix (de_ix (de_var 0) (de_int)) (de_int)) (de_ix (de_ix (de_var 0) (de_int)) (de_int))) (de_var 2)))).dt) (dss_one (ds_ret (de_bl))) (dss_nil))
  (dss_one (ds_ret (de_cmp (op_eqB (hu_of' hr)) v_dat (de_callB call_len a_len z_len (da_cons ((DN.de (dn_hid (kk__law_base_right_1) (dn_compX rfl sc__law_base_right.nd (di_sq (de_var 1)) (own := [("step", 3)]) (blkOk_by (N := ["told", "steps", "index", "step"]) (sc := defScope t__law_base_right) (by decide +kernel)) (fun s H C cl fp => dg_name 3 sc__law_base_right.nd) (fun s H C cl fp => dts_one (dt_not (dt_tru ((dc_cal0 h__law_has (hr.mono (by first | exact Nat.le_refl _ | decide | omega)) (da_cons (de_var 0) (da_cons (de_var 3) (da_nil))) (aLen_cons (aLen_cons (aLen_nil)))).de)))) (fun s H C cl fp => de_var 3))))) (da_nil))) (de_int))))))⟩)
/-! ### joined_lattice -/
abbrev t_joined_lattice : Stmt := topS 7
theorem sc_joined_lattice : FnScope ["one", "other"] ["one", "other"] (defScope t_joined_lattice) := ⟨rfl, rfl, rfl, by decide +kernel, rfl, by decide +kernel, by decide +kernel⟩
def s_joined_lattice : FS := sRet (eRetD (eCall0 m_base_of (aCons (eBin dAddA (eVar 0) (eVar 1)) (aNil))))
def mb_joined_lattice : FnS := fnSem 2 [] s_joined_lattice
def m_joined_lattice : FnS := hid mb_joined_lattice
theorem mm_joined_lattice : m_joined_lattice = fnSem 2 [] s_joined_lattice := hid_eq _
instance : FnIs m_joined_lattice 2 [] s_joined_lattice := ⟨mm_joined_lattice⟩
theorem ok_joined_lattice (S : Src K mg "joined_lattice" t_joined_lattice ["one", "other"]) (h_base_of : Cal P w K mg base 3 "base_of" ["steps"] [] m_base_of) : Cal P w K mg base 4 "joined_lattice" ["one", "other"] [] m_joined_lattice := by
  rw [mm_joined_lattice]
  exact pd_cal (k := 3) [] S sc_joined_lattice rfl (body := s_joined_lattice) (fun f cdv A outer s H E hr => ⟨_, dss_one (ds_ret ((dc_cal0 h_base_of (hr.mono (by first | exact Nat.le_refl _ | decide | omega)) (da_cons (de_bin op_addA v_addA (de_var 0) (de_var 1)) (da_nil)) (aLen_cons (aLen_nil))).de))⟩)
/-! ### index_of -/
abbrev t_index_of : Stmt := topS 6
theorem sc_index_of : FnScope ["base"] ["base"] (defScope t_index_of) := ⟨rfl, rfl, rfl, by decide +kernel, rfl, by decide +kernel, by decide +kernel⟩
def s_index_of : FS := sRet (eBin dMulA (eBin dIx (eBin dIx (eVar 0) (eC (.int 0))) (eC (.int 0))) (eBin dIx (eBin dIx (eVar 0) (eC (.int 1))) (eC (.int 1))))
def mb_index_of : FnS := fnSem 1 [] s_index_of
def m_index_of : FnS := hid mb_index_of
theorem mm_index_of : m_index_of = fnSem 1 [] s_index_of := hid_eq _
instance : FnIs m_index_of 1 [] s_index_of := ⟨mm_index_of⟩
theorem ok_index_of (S : Src K mg "index_of" t_index_of ["base"]) : Cal P w K mg base 1 "index_of" ["base"] [] m_index_of := by
  rw [mm_index_of]
  exact pd_cal (k := 0) [] S sc_index_of rfl (body := s_index_of) (fun f cdv A outer s H E hr => ⟨_, dss_one (ds_ret (de_bin op_mulA v_mulA (de_ix (de_ix (de_var 0) (de_int)) (de_int)) (de_ix (de_ix (de_var 0) (de_int)) (de_int))))⟩)
/-! ### _law_counted -/
abbrev t__law_counted : Stmt := topS 26
theorem sc__law_counted : FnScope ["base", "taken", "x", "y", "one"] ["base"] (defScope t__law_counted) := ⟨rfl, rfl, rfl, by decide +kernel, rfl, by decide +kernel, by decide +kernel⟩
def kb__law_counted_1 : FN := eComp (some 1) [4] (iOwn 1) (gNm 4) (eTru (eRetD (eCall0 m__law_has (aCons (eVar 0) (aCons (eTup (aCons (eBin dSub (eVar 2) (eBin dIx (eVar 4) (eC (.int 0)))) (aCons (eBin dSub (eVar 3) (eBin dIx (eVar 4) (eC (.int 1)))) (aNil)))) (aNil)))))) (eVar 4)
def k__law_counted_1 : FN := hid (kb__law_counted_1)
theorem kk__law_counted_1 : k__law_counted_1 = eComp (some 1) [4] (iOwn 1) (gNm 4) (eTru (eRetD (eCall0 m__law_has (aCons (eVar 0) (aCons (eTup (aCons (eBin dSub (eVar 2) (eBin dIx (eVar 4) (eC (.int 0)))) (aCons (eBin dSub (eVar 3) (eBin dIx (eVar 4) (eC (.int 1)))) (aNil)))) (aNil)))))) (eVar 4) := hid_eq _
def b__law_counted_1 : FS := sIf (eTst (eBin (fun x y => (bEq x y).map .bool) (eCB cLen (aCons (eFrz (k__law_counted_1)) (aNil))) (eC (.int 0)))) (sExpr (eMeth 1 lAppend (aCons (eTup (aCons (eVar 2) (aCons (eVar 3) (aNil)))) (aNil)))) (sNx)
def lb__law_counted_1 : FS := sFor none [3] (iR1 (aCons (eC (.int 8)) (aNil))) (gNm 3) b__law_counted_1
def l__law_counted_1 : FS := hid (lb__law_counted_1)
theorem ll__law_counted_1 : l__law_counted_1 = sFor none [3] (iR1 (aCons (eC (.int 8)) (aNil))) (gNm 3) b__law_counted_1 := hid_eq _
def b__law_counted_2 : FS := l__law_counted_1
def lb__law_counted_2 : FS := sFor none [2, 3] (iR1 (aCons (eC (.int 8)) (aNil))) (gNm 2) b__law_counted_2
def l__law_counted_2 : FS := hid (lb__law_counted_2)
theorem ll__law_counted_2 : l__law_counted_2 = sFor none [2, 3] (iR1 (aCons (eC (.int 8)) (aNil))) (gNm 2) b__law_counted_2 := hid_eq _
def s__law_counted : FS := sSeq (sSetN 1 (eLst (aNil)))
  (sSeq (l__law_counted_2)
  (sRet (eCB cLen (aCons (eVar 1) (aNil)))))
def mb__law_counted : FnS := fnSem 5 [] s__law_counted
def m__law_counted : FnS := hid mb__law_counted
theorem mm__law_counted : m__law_counted = fnSem 5 [] s__law_counted := hid_eq _
instance : FnIs m__law_counted 5 [] s__law_counted := ⟨mm__law_counted⟩
theorem ok__law_counted (S : Src K mg "_law_counted" t__law_counted ["base"]) (h__law_has : Cal P w K mg base 1 "_law_has" ["base", "step"] [] m__law_has) (z_len : mg "len" = none) (z_range : mg "range" = none) : Cal P w K mg base 2 "_law_counted" ["base"] [] m__law_counted := by
  rw [mm__law_counted]
  exact pd_cal (k := 1) [] S sc__law_counted rfl (body := s__law_counted) (fun f cdv A outer s H E hr => ⟨_, dss_cons (ds_setN sc__law_counted.nd (dn_lst (da_nil)) (i := 1))
  (dss_cons (ds_hid (ll__law_counted_2) (ds_for [2, 3] PassesOwn.never rfl (di_range1 (da_cons (de_int) (da_nil)) z_range) (dg_name 2 sc__law_counted.nd) (dss_one (ds_hid (ll__law_counted_1) (ds_for [3] PassesOwn.never rfl (di_range1 (da_cons (de_int) (da_nil)) z_range) (dg_name 3 sc__law_counted.nd) (dss_one (ds_if (dt_cmp (op_eqB (hu_of' hr)) v_dat (de_callB call_len a_len z_len (da_cons ((DN.de (dn_hid (kk__law_counted_1) (dn_compX rfl sc__law_counted.nd (di_own 1) (own := [("one", 4)]) (blkOk_by (N := ["base", "taken", "x", "y", "one"]) (sc := defScope t__law_counted) (by decide +kernel)) (fun s H C cl fp => dg_name 4 sc__law_counted.nd) (fun s H C cl fp => dts_one (dt_tru ((dc_cal0 h__law_has (hr.mono (by first | exact Nat.le_refl _ | decide | omega)) (da_cons (de_var 0) (da_cons (de_tup (da_cons (de_bin op_sub v_sub (de_var 2) (de_ix (de_var 4) (de_int))) (da_cons (de_bin op_sub v_sub (de_var 3) (de_ix (de_var 4) (de_int))) (da_nil)))) (da_nil))) (aLen_cons (aLen_cons (aLen_nil)))).de))) (fun s H C cl fp => de_var 4))))) (da_nil))) (de_int)) (dss_one (ds_expr (de_lm (j := 1) PySem.F.slot_list_append PySem.F.type_list_append mt_append l_append (da_cons (de_tup (da_cons (de_var 2) (da_cons (de_var 3) (da_nil)))) (da_nil))))) (dss_nil))))))))
  (dss_one (ds_ret (de_callB call_len a_len z_len (da_cons (de_var 1) (da_nil))))))⟩)
/-! ### has_step -/
abbrev t_has_step : Stmt := topS 5
theorem sc_has_step : FnScope ["base", "step", "a", "b", "zero", "d", "x", "y"] ["base", "step"] (defScope t_has_step) := ⟨rfl, rfl, rfl, by decide +kernel, rfl, by decide +kernel, by decide +kernel⟩
def s_has_step : FS := sSeq (sAsg (eVar 0) (gTp 2 (gCn (gTp 2 (gCn (gNm 2) (gCn (gNm 3) (gNl)))) (gCn (gTp 2 (gCn (gNm 4) (gCn (gNm 5) (gNl)))) (gNl)))))
  (sSeq (sAsg (eVar 1) (gTp 2 (gCn (gNm 6) (gCn (gNm 7) (gNl)))))
  (sRet (eAndV (eBin (fun x y => (bEq x y).map .bool) (eBin dMod (eVar 6) (eVar 2)) (eC (.int 0))) (eBin (fun x y => (bEq x y).map .bool) (eBin dMod (eBin dSub (eVar 7) (eBin dMulA (eBin dFdiv (eVar 6) (eVar 2)) (eVar 3))) (eVar 5)) (eC (.int 0))))))
def mb_has_step : FnS := fnSem 8 [] s_has_step
def m_has_step : FnS := hid mb_has_step
theorem mm_has_step : m_has_step = fnSem 8 [] s_has_step := hid_eq _
instance : FnIs m_has_step 8 [] s_has_step := ⟨mm_has_step⟩
theorem ok_has_step (S : Src K mg "has_step" t_has_step ["base", "step"]) : Cal P w K mg base 1 "has_step" ["base", "step"] [] m_has_step := by
  rw [mm_has_step]
  exact pd_cal (k := 0) [] S sc_has_step rfl (body := s_has_step) (fun f cdv A outer s H E hr => ⟨_, dss_cons (ds_asg (de_var 0) (dg_tup rfl (dgs_cons (dg_tup rfl (dgs_cons (dg_name 2 sc_has_step.nd) (dgs_cons (dg_name 3 sc_has_step.nd) (dgs_nil)))) (dgs_cons (dg_tup rfl (dgs_cons (dg_name 4 sc_has_step.nd) (dgs_cons (dg_name 5 sc_has_step.nd) (dgs_nil)))) (dgs_nil)))))
  (dss_cons (ds_asg (de_var 1) (dg_tup rfl (dgs_cons (dg_name 6 sc_has_step.nd) (dgs_cons (dg_name 7 sc_has_step.nd) (dgs_nil)))))
  (dss_one (ds_ret (de_and (de_cmp (op_eqB (hu_of' hr)) v_dat (de_bin op_modN v_mod (de_var 6) (de_var 2)) (de_int)) (de_one (de_cmp (op_eqB (hu_of' hr)) v_dat (de_bin op_modN v_mod (de_bin op_sub v_sub (de_var 7) (de_bin op_mulA v_mulA (de_bin op_fdivD v_fdiv (de_var 6) (de_var 2)) (de_var 3))) (de_var 5)) (de_int)))))))⟩)
/-! ### _law_bases_right -/
abbrev t__law_bases_right : Stmt := topS 27
theorem sc__law_bases_right : FnScope ["draws", "script", "steps", "base", "small", "one", "x", "y", "step", "near", "place"] ["draws", "script"] (defScope t__law_bases_right) := ⟨rfl, rfl, rfl, by decide +kernel, rfl, by decide +kernel, by decide +kernel⟩
def b__law_bases_right_1 : FS := sIf (eNot (eTru (eRetD (eCall0 (m__law_same 12) (aCons (eRetD (eCall0 m_has_step (aCons (eVar 5) (aCons (eVar 10) (aNil))))) (aCons (eRetD (eCall0 m__law_has (aCons (eVar 5) (aCons (eVar 10) (aNil))))) (aNil))))))) (sRet (eC (.bool false))) (sNx)
def lb__law_bases_right_1 : FS := sFor none [10] (iSq (eVar 9)) (gNm 10) b__law_bases_right_1
def l__law_bases_right_1 : FS := hid (lb__law_bases_right_1)
theorem ll__law_bases_right_1 : l__law_bases_right_1 = sFor none [10] (iSq (eVar 9)) (gNm 10) b__law_bases_right_1 := hid_eq _
def b__law_bases_right_2 : FS := sSeq (sIf (eOr (eNot (eTru (eRetD (eCall0 (m__law_same 12) (aCons (eRetD (eCall0 m_index_of (aCons (eVar 5) (aNil)))) (aCons (eBin dMulA (eBin dIx (eBin dIx (eVar 5) (eC (.int 0))) (eC (.int 0))) (eBin dIx (eBin dIx (eVar 5) (eC (.int 1))) (eC (.int 1)))) (aNil))))))) (eNot (eTru (eRetD (eCall0 (m__law_same 12) (aCons (eRetD (eCall0 m_base_of (aCons (eVar 5) (aNil)))) (aCons (eVar 5) (aNil)))))))) (sRet (eC (.bool false))) (sNx))
  (sSeq (sSet 6 (eRetD (eCall1 0 0 m__law_number (rIo 0 (rCons (eVar 1) (rNil))))))
  (sSeq (sSet 7 (eRetD (eCall1 0 0 m__law_number (rIo 0 (rCons (eVar 1) (rNil))))))
  (sSeq (sSet 8 (eTup (aCons (eBin dMulA (eVar 6) (eBin dIx (eBin dIx (eVar 5) (eC (.int 0))) (eC (.int 0)))) (aCons (eBin dAddA (eBin dMulA (eVar 6) (eBin dIx (eBin dIx (eVar 5) (eC (.int 0))) (eC (.int 1)))) (eBin dMulA (eVar 7) (eBin dIx (eBin dIx (eVar 5) (eC (.int 1))) (eC (.int 1))))) (aNil)))))
  (sSeq (sSet 9 (eFrz (eLst (aCons (eVar 8) (aCons (eTup (aCons (eBin dAddA (eBin dIx (eVar 8) (eC (.int 0))) (eC (.int 1))) (aCons (eBin dIx (eVar 8) (eC (.int 1))) (aNil)))) (aCons (eTup (aCons (eBin dIx (eVar 8) (eC (.int 0))) (aCons (eBin dAddA (eBin dIx (eVar 8) (eC (.int 1))) (eC (.int 1))) (aNil)))) (aCons (eTup (aCons (eBin dIx (eVar 8) (eC (.int 0))) (aCons (eBin dSub (eBin dIx (eVar 8) (eC (.int 1))) (eBin dIx (eBin dIx (eVar 5) (eC (.int 0))) (eC (.int 1)))) (aNil)))) (aCons (eTup (aCons (eVar 6) (aCons (eVar 7) (aNil)))) (aCons (eTup (aCons (eC (.int 0)) (aCons (eC (.int 0)) (aNil)))) (aNil))))))))))
  (l__law_bases_right_1)))))
def lb__law_bases_right_2 : FS := sFor none [5, 6, 7, 8, 9, 10] (iSq (eFrz (eLst (aCons (eVar 3) (aCons (eVar 4) (aNil)))))) (gNm 5) b__law_bases_right_2
def l__law_bases_right_2 : FS := hid (lb__law_bases_right_2)
theorem ll__law_bases_right_2 : l__law_bases_right_2 = sFor none [5, 6, 7, 8, 9, 10] (iSq (eFrz (eLst (aCons (eVar 3) (aCons (eVar 4) (aNil)))))) (gNm 5) b__law_bases_right_2 := hid_eq _
def s__law_bases_right : FS := sSeq (sSet 2 (eRetD (eCall1 0 0 m__law_steps (rIo 0 (rCons (eVar 1) (rNil))))))
  (sSeq (sSet 3 (eRetD (eCall0 m_base_of (aCons (eVar 2) (aNil)))))
  (sSeq (sIf (eNot (eTru (eRetD (eCall0 m__law_base_right (aCons (eVar 3) (aCons (eVar 2) (aNil))))))) (sRet (eC (.bool false))) (sNx))
  (sSeq (sSet 4 (eRetD (eCall1 0 0 m__law_small_base (rIo 0 (rNil)))))
  (sSeq (sIf (eTst (eBin (fun x y => (bIsN x y).map .bool) (eVar 3) (eC .none))) (sSet 3 (eVar 4)) (sNx))
  (sSeq (sIf (eNot (eTru (eRetD (eCall0 (m__law_same 12) (aCons (eRetD (eCall0 m_index_of (aCons (eVar 4) (aNil)))) (aCons (eRetD (eCall0 m__law_counted (aCons (eVar 4) (aNil)))) (aNil))))))) (sRet (eC (.bool false))) (sNx))
  (sSeq (l__law_bases_right_2)
  (sRet (eRetD (eCall0 m__law_base_right (aCons (eRetD (eCall0 m_joined_lattice (aCons (eVar 3) (aCons (eVar 4) (aNil))))) (aCons (eBin dAddA (eVar 3) (eVar 4)) (aNil))))))))))))
def mb__law_bases_right : FnS := fnSem 11 [0] s__law_bases_right
def m__law_bases_right : FnS := hid mb__law_bases_right
theorem mm__law_bases_right : m__law_bases_right = fnSem 11 [0] s__law_bases_right := hid_eq _
instance : FnIs m__law_bases_right 11 [0] s__law_bases_right := ⟨mm__law_bases_right⟩
theorem ok__law_bases_right (S : Src K mg "_law_bases_right" t__law_bases_right ["draws", "script"]) (h__law_base_right : Cal P w K mg base 3 "_law_base_right" ["told", "steps"] [] m__law_base_right) (h__law_counted : Cal P w K mg base 2 "_law_counted" ["base"] [] m__law_counted) (h__law_has : Cal P w K mg base 1 "_law_has" ["base", "step"] [] m__law_has) (h__law_number : Cal P w K mg base 2 "_law_number" ["draws", "script"] [0] m__law_number) (h__law_same : Cal P w K mg base 12 "_law_same" ["actual", "due"] [] (m__law_same 12)) (h__law_small_base : Cal P w K mg base 2 "_law_small_base" ["draws"] [0] m__law_small_base) (h__law_steps : Cal P w K mg base 3 "_law_steps" ["draws", "script"] [0] m__law_steps) (h_base_of : Cal P w K mg base 3 "base_of" ["steps"] [] m_base_of) (h_has_step : Cal P w K mg base 1 "has_step" ["base", "step"] [] m_has_step) (h_index_of : Cal P w K mg base 1 "index_of" ["base"] [] m_index_of) (h_joined_lattice : Cal P w K mg base 4 "joined_lattice" ["one", "other"] [] m_joined_lattice) : Cal P w K mg base 13 "_law_bases_right" ["draws", "script"] [0] m__law_bases_right := by
  rw [mm__law_bases_right]
  exact pd_cal (k := 12) [0] S sc__law_bases_right rfl (body := s__law_bases_right) (fun f cdv A outer s H E hr => ⟨_, dss_cons (ds_set sc__law_bases_right.nd ((dc_cal1 h__law_steps (hr.mono (by first | exact Nat.le_refl _ | decide | omega)) (j := 0) (dr_io (dr_cons (de_var 1) (dr_nil)))).de) (i := 2))
  (dss_cons (ds_set sc__law_bases_right.nd ((dc_cal0 h_base_of (hr.mono (by first | exact Nat.le_refl _ | decide | omega)) (da_cons (de_var 2) (da_nil)) (aLen_cons (aLen_nil))).de) (i := 3))
  (dss_cons (ds_if (dt_not (dt_tru ((dc_cal0 h__law_base_right (hr.mono (by first | exact Nat.le_refl _ | decide | omega)) (da_cons (de_var 3) (da_cons (de_var 2) (da_nil))) (aLen_cons (aLen_cons (aLen_nil)))).de))) (dss_one (ds_ret (de_bl))) (dss_nil))
  (dss_cons (ds_set sc__law_bases_right.nd ((dc_cal1 h__law_small_base (hr.mono (by first | exact Nat.le_refl _ | decide | omega)) (j := 0) (dr_io (dr_nil))).de) (i := 4))
  (dss_cons (ds_if (dt_cmp (op_isNB) v_dat (de_var 3) (de_non)) (dss_one (ds_set sc__law_bases_right.nd (de_var 4) (i := 3))) (dss_nil))
  (dss_cons (ds_if (dt_not (dt_tru ((dc_cal0 h__law_same (hr.mono (by first | exact Nat.le_refl _ | decide | omega)) (da_cons ((dc_cal0 h_index_of (hr.mono (by first | exact Nat.le_refl _ | decide | omega)) (da_cons (de_var 4) (da_nil)) (aLen_cons (aLen_nil))).de) (da_cons ((dc_cal0 h__law_counted (hr.mono (by first | exact Nat.le_refl _ | decide | omega)) (da_cons (de_var 4) (da_nil)) (aLen_cons (aLen_nil))).de) (da_nil))) (aLen_cons (aLen_cons (aLen_nil)))).de))) (dss_one (ds_ret (de_bl))) (dss_nil))
  (dss_cons (ds_hid (ll__law_bases_right_2) (ds_for [5, 6, 7, 8, 9, 10] PassesOwn.never rfl (di_sq ((DN.de (dn_lst (da_cons (de_var 3) (da_cons (de_var 4) (da_nil))))))) (dg_name 5 sc__law_bases_right.nd) (dss_cons (ds_if ((dw_or (dt_not (dt_tru ((dc_cal0 h__law_same (hr.mono (by first | exact Nat.le_refl _ | decide | omega)) (da_cons ((dc_cal0 h_index_of (hr.mono (by first | exact Nat.le_refl _ | decide | omega)) (da_cons (de_var 5) (da_nil)) (aLen_cons (aLen_nil))).de) (da_cons (de_bin op_mulA v_mulA (de_ix (de_ix (de_var 5) (de_int)) (de_int)) (de_ix (de_ix (de_var 5) (de_int)) (de_int))) (da_nil))) (aLen_cons (aLen_cons (aLen_nil)))).de))) (dw_or1 (dt_not (dt_tru ((dc_cal0 h__law_same (hr.mono (by first | exact Nat.le_refl _ | decide | omega)) (da_cons ((dc_cal0 h_base_of (hr.mono (by first | exact Nat.le_refl _ | decide | omega)) (da_cons (de_var 5) (da_nil)) (aLen_cons (aLen_nil))).de) (da_cons (de_var 5) (da_nil))) (aLen_cons (aLen_cons (aLen_nil)))).de))))).dt) (dss_one (ds_ret (de_bl))) (dss_nil))
  (dss_cons (ds_set sc__law_bases_right.nd ((dc_cal1 h__law_number (hr.mono (by first | exact Nat.le_refl _ | decide | omega)) (j := 0) (dr_io (dr_cons (de_var 1) (dr_nil)))).de) (i := 6))
  (dss_cons (ds_set sc__law_bases_right.nd ((dc_cal1 h__law_number (hr.mono (by first | exact Nat.le_refl _ | decide | omega)) (j := 0) (dr_io (dr_cons (de_var 1) (dr_nil)))).de) (i := 7))
  (dss_cons (ds_set sc__law_bases_right.nd (de_tup (da_cons (de_bin op_mulA v_mulA (de_var 6) (de_ix (de_ix (de_var 5) (de_int)) (de_int))) (da_cons (de_bin op_addA v_addA (de_bin op_mulA v_mulA (de_var 6) (de_ix (de_ix (de_var 5) (de_int)) (de_int))) (de_bin op_mulA v_mulA (de_var 7) (de_ix (de_ix (de_var 5) (de_int)) (de_int)))) (da_nil)))) (i := 8))
  (dss_cons (ds_set sc__law_bases_right.nd ((DN.de (dn_lst (da_cons (de_var 8) (da_cons (de_tup (da_cons (de_bin op_addA v_addA (de_ix (de_var 8) (de_int)) (de_int)) (da_cons (de_ix (de_var 8) (de_int)) (da_nil)))) (da_cons (de_tup (da_cons (de_ix (de_var 8) (de_int)) (da_cons (de_bin op_addA v_addA (de_ix (de_var 8) (de_int)) (de_int)) (da_nil)))) (da_cons (de_tup (da_cons (de_ix (de_var 8) (de_int)) (da_cons (de_bin op_sub v_sub (de_ix (de_var 8) (de_int)) (de_ix (de_ix (de_var 5) (de_int)) (de_int))) (da_nil)))) (da_cons (de_tup (da_cons (de_var 6) (da_cons (de_var 7) (da_nil)))) (da_cons (de_tup (da_cons (de_int) (da_cons (de_int) (da_nil)))) (da_nil)))))))))) (i := 9))
  (dss_one (ds_hid (ll__law_bases_right_1) (ds_for [10] PassesOwn.never rfl (di_sq (de_var 9)) (dg_name 10 sc__law_bases_right.nd) (dss_one (ds_if (dt_not (dt_tru ((dc_cal0 h__law_same (hr.mono (by first | exact Nat.le_refl _ | decide | omega)) (da_cons ((dc_cal0 h_has_step (hr.mono (by first | exact Nat.le_refl _ | decide | omega)) (da_cons (de_var 5) (da_cons (de_var 10) (da_nil))) (aLen_cons (aLen_cons (aLen_nil)))).de) (da_cons ((dc_cal0 h__law_has (hr.mono (by first | exact Nat.le_refl _ | decide | omega)) (da_cons (de_var 5) (da_cons (de_var 10) (da_nil))) (aLen_cons (aLen_cons (aLen_nil)))).de) (da_nil))) (aLen_cons (aLen_cons (aLen_nil)))).de))) (dss_one (ds_ret (de_bl))) (dss_nil)))))))))))))
  (dss_one (ds_ret ((dc_cal0 h__law_base_right (hr.mono (by first | exact Nat.le_refl _ | decide | omega)) (da_cons ((dc_cal0 h_joined_lattice (hr.mono (by first | exact Nat.le_refl _ | decide | omega)) (da_cons (de_var 3) (da_cons (de_var 4) (da_nil))) (aLen_cons (aLen_cons (aLen_nil)))).de) (da_cons (de_bin op_addA v_addA (de_var 3) (de_var 4)) (da_nil))) (aLen_cons (aLen_cons (aLen_nil)))).de)))))))))⟩)
/-! ### _law_second -/
abbrev t__law_second : Stmt := topS 32
theorem sc__law_second : FnScope ["draws", "rows", "x", "y", "turned", "times", "at", "place", "sign", "row"] ["draws", "rows"] (defScope t__law_second) := ⟨rfl, rfl, rfl, by decide +kernel, rfl, by decide +kernel, by decide +kernel⟩
def kb__law_second_1 : FN := eComp none [9] (iSq (eBin dAddA (eSl (eVar 1) (oSome (eVar 3)) (oNone)) (eSl (eVar 1) (oNone) (oSome (eVar 3))))) (gNm 9) (cYes) (eBin dAddA (eSl (eVar 9) (oSome (eVar 2)) (oNone)) (eSl (eVar 9) (oNone) (oSome (eVar 2))))
def k__law_second_1 : FN := hid (kb__law_second_1)
theorem kk__law_second_1 : k__law_second_1 = eComp none [9] (iSq (eBin dAddA (eSl (eVar 1) (oSome (eVar 3)) (oNone)) (eSl (eVar 1) (oNone) (oSome (eVar 3))))) (gNm 9) (cYes) (eBin dAddA (eSl (eVar 9) (oSome (eVar 2)) (oNone)) (eSl (eVar 9) (oNone) (oSome (eVar 2)))) := hid_eq _
def kb__law_second_2 : FN := eComp none [9] (iSq (eVar 4)) (gNm 9) (cYes) (eBin dMulA (eVar 9) (eVar 5))
def k__law_second_2 : FN := hid (kb__law_second_2)
theorem kk__law_second_2 : k__law_second_2 = eComp none [9] (iSq (eVar 4)) (gNm 9) (cYes) (eBin dMulA (eVar 9) (eVar 5)) := hid_eq _
def s__law_second : FS := sSeq (sSet 2 (eRetD (eCall1 0 0 m__law_take (rIo 0 (rCons (eCB cLen (aCons (eBin dIx (eVar 1) (eC (.int 0))) (aNil))) (rNil))))))
  (sSeq (sSet 3 (eRetD (eCall1 0 0 m__law_take (rIo 0 (rCons (eCB cLen (aCons (eVar 1) (aNil))) (rNil))))))
  (sSeq (sIf (eTst (eBin (fun x y => (bEq x y).map .bool) (eRetD (eCall1 0 0 m__law_take (rIo 0 (rCons (eC (.int 3)) (rNil))))) (eC (.int 0)))) (sSeq (sSet 2 (eC (.int 0)))
  (sSet 3 (eC (.int 0)))) (sNx))
  (sSeq (sSetN 4 (k__law_second_1))
  (sSeq (sSet 5 (eBin dAddA (eC (.int 1)) (eRetD (eCall1 0 0 m__law_take (rIo 0 (rCons (eC (.int 2)) (rNil)))))))
  (sSeq (sIf (eTst (eBin (fun x y => (bLt x y).map .bool) (eCB cLen (aCons (eBin dIx (eVar 1) (eC (.int 0))) (aNil))) (eC (.int 5)))) (sSetN 4 (k__law_second_2)) (sNx))
  (sSeq (sIf (eTst (eBin (fun x y => (bLt x y).map .bool) (eCB cLen (aCons (eVar 1) (aNil))) (eC (.int 5)))) (sSetN 4 (eBinN dMulL (eVar 4) (eBin dAddA (eC (.int 1)) (eRetD (eCall1 0 0 m__law_take (rIo 0 (rCons (eC (.int 2)) (rNil)))))))) (sNx))
  (sSeq (sIf (eTst (eBin (fun x y => (bEq x y).map .bool) (eRetD (eCall1 0 0 m__law_take (rIo 0 (rCons (eC (.int 3)) (rNil))))) (eC (.int 0)))) (sSeq (sSet 6 (eRetD (eCall1 0 0 m__law_take (rIo 0 (rCons (eLenOwn 4) (rNil))))))
  (sSeq (sSet 7 (eRetD (eCall1 0 0 m__law_take (rIo 0 (rCons (eCB cLen (aCons (eIxOwn 4 (eVar 6)) (aNil))) (rNil))))))
  (sSeq (sSet 8 (eRetD (eCall0 m__law_sign (aCons (eVar 1) (aCons (eRetD (eCall1 0 0 m__law_take (rIo 0 (rCons (eC (.int 6)) (rNil))))) (aCons (eRetD (eCall1 0 0 m__law_take (rIo 0 (rCons (eC (.int 6)) (rNil))))) (aNil)))))))
  (sItem 4 (eVar 6) (eBin dAddA (eBin dAddA (eSl (eIxOwn 4 (eVar 6)) (oNone) (oSome (eVar 7))) (eVar 8)) (eSl (eIxOwn 4 (eVar 6)) (oSome (eBin dAddA (eVar 7) (eC (.int 1)))) (oNone))))))) (sNx))
  (sRet (eCB cTuple (aCons (eVar 4) (aNil)))))))))))
def mb__law_second : FnS := fnSem 10 [0] s__law_second
def m__law_second : FnS := hid mb__law_second
theorem mm__law_second : m__law_second = fnSem 10 [0] s__law_second := hid_eq _
instance : FnIs m__law_second 10 [0] s__law_second := ⟨mm__law_second⟩
theorem ok__law_second (S : Src K mg "_law_second" t__law_second ["draws", "rows"]) (h__law_sign : Cal P w K mg base 1 "_law_sign" ["rows", "x", "y"] [] m__law_sign) (h__law_take : Cal P w K mg base 1 "_law_take" ["draws", "many"] [0] m__law_take) (z_len : mg "len" = none) (z_tuple : mg "tuple" = none) : Cal P w K mg base 2 "_law_second" ["draws", "rows"] [0] m__law_second := by
  rw [mm__law_second]
  exact pd_cal (k := 1) [0] S sc__law_second rfl (body := s__law_second) (fun f cdv A outer s H E hr => ⟨_, dss_cons (ds_set sc__law_second.nd ((dc_cal1 h__law_take (hr.mono (by first | exact Nat.le_refl _ | decide | omega)) (j := 0) (dr_io (dr_cons (de_callB call_len a_len z_len (da_cons (de_ix (de_var 1) (de_int)) (da_nil))) (dr_nil)))).de) (i := 2))
  (dss_cons (ds_set sc__law_second.nd ((dc_cal1 h__law_take (hr.mono (by first | exact Nat.le_refl _ | decide | omega)) (j := 0) (dr_io (dr_cons (de_callB call_len a_len z_len (da_cons (de_var 1) (da_nil))) (dr_nil)))).de) (i := 3))
  (dss_cons (ds_if (dt_cmp (op_eqB (hu_of' hr)) v_dat ((dc_cal1 h__law_take (hr.mono (by first | exact Nat.le_refl _ | decide | omega)) (j := 0) (dr_io (dr_cons (de_int) (dr_nil)))).de) (de_int)) (dss_cons (ds_set sc__law_second.nd (de_int) (i := 2))
  (dss_one (ds_set sc__law_second.nd (de_int) (i := 3)))) (dss_nil))
  (dss_cons (ds_hidN (kk__law_second_1) (ds_setCompNX rfl sc__law_second.nd (di_sq (de_bin op_addA v_addA (de_slice (de_var 1) (do_some (de_var 3)) (do_none)) (de_slice (de_var 1) (do_none) (do_some (de_var 3))))) (own := [("row", 9)]) (blkOk_by (N := ["draws", "rows", "x", "y", "turned", "times", "at", "place", "sign", "row"]) (sc := defScope t__law_second) (by decide +kernel)) (fun s H C cl fp => dg_name 9 sc__law_second.nd) (fun s H C cl fp => dts_nil) (fun s H C cl fp => de_bin op_addA v_addA (de_slice (de_var 9) (do_some (de_var 2)) (do_none)) (de_slice (de_var 9) (do_none) (do_some (de_var 2))))))
  (dss_cons (ds_set sc__law_second.nd (de_bin op_addA v_addA (de_int) ((dc_cal1 h__law_take (hr.mono (by first | exact Nat.le_refl _ | decide | omega)) (j := 0) (dr_io (dr_cons (de_int) (dr_nil)))).de)) (i := 5))
  (dss_cons (ds_if (dt_cmp (op_ltB (hu_of' hr)) v_dat (de_callB call_len a_len z_len (da_cons (de_ix (de_var 1) (de_int)) (da_nil))) (de_int)) (dss_one (ds_hidN (kk__law_second_2) (ds_setCompNX rfl sc__law_second.nd (di_sq (de_var 4)) (own := [("row", 9)]) (blkOk_by (N := ["draws", "rows", "x", "y", "turned", "times", "at", "place", "sign", "row"]) (sc := defScope t__law_second) (by decide +kernel)) (fun s H C cl fp => dg_name 9 sc__law_second.nd) (fun s H C cl fp => dts_nil) (fun s H C cl fp => de_bin op_mulA v_mulA (de_var 9) (de_var 5))))) (dss_nil))
  (dss_cons (ds_if (dt_cmp (op_ltB (hu_of' hr)) v_dat (de_callB call_len a_len z_len (da_cons (de_var 1) (da_nil))) (de_int)) (dss_one (ds_setN sc__law_second.nd (dn_bin op_mulL v_mulL (de_var 4) (de_bin op_addA v_addA (de_int) ((dc_cal1 h__law_take (hr.mono (by first | exact Nat.le_refl _ | decide | omega)) (j := 0) (dr_io (dr_cons (de_int) (dr_nil)))).de))) (i := 4))) (dss_nil))
  (dss_cons (ds_if (dt_cmp (op_eqB (hu_of' hr)) v_dat ((dc_cal1 h__law_take (hr.mono (by first | exact Nat.le_refl _ | decide | omega)) (j := 0) (dr_io (dr_cons (de_int) (dr_nil)))).de) (de_int)) (dss_cons (ds_set sc__law_second.nd ((dc_cal1 h__law_take (hr.mono (by first | exact Nat.le_refl _ | decide | omega)) (j := 0) (dr_io (dr_cons (de_lenOwn 4 z_len) (dr_nil)))).de) (i := 6))
  (dss_cons (ds_set sc__law_second.nd ((dc_cal1 h__law_take (hr.mono (by first | exact Nat.le_refl _ | decide | omega)) (j := 0) (dr_io (dr_cons (de_callB call_len a_len z_len (da_cons (de_ixOwn 4 (de_var 6)) (da_nil))) (dr_nil)))).de) (i := 7))
  (dss_cons (ds_set sc__law_second.nd ((dc_cal0 h__law_sign (hr.mono (by first | exact Nat.le_refl _ | decide | omega)) (da_cons (de_var 1) (da_cons ((dc_cal1 h__law_take (hr.mono (by first | exact Nat.le_refl _ | decide | omega)) (j := 0) (dr_io (dr_cons (de_int) (dr_nil)))).de) (da_cons ((dc_cal1 h__law_take (hr.mono (by first | exact Nat.le_refl _ | decide | omega)) (j := 0) (dr_io (dr_cons (de_int) (dr_nil)))).de) (da_nil)))) (aLen_cons (aLen_cons (aLen_cons (aLen_nil))))).de) (i := 8))
  (dss_one (ds_item (j := 4) (de_bin op_addA v_addA (de_bin op_addA v_addA (de_slice (de_ixOwn 4 (de_var 6)) (do_none) (do_some (de_var 7))) (de_var 8)) (de_slice (de_ixOwn 4 (de_var 6)) (do_some (de_bin op_addA v_addA (de_var 7) (de_int))) (do_none))) (de_var 6)))))) (dss_nil))
  (dss_one (ds_ret (de_callTy call_tuple_of a_tuple z_tuple (da_cons (de_var 4) (da_nil))))))))))))⟩)
/-! ### law -/
abbrev t_law : Stmt := topS 34
theorem sc_law : FnScope ["script", "draws", "rows"] ["script"] (defScope t_law) := ⟨rfl, rfl, rfl, by decide +kernel, rfl, by decide +kernel, by decide +kernel⟩
def s_law : FS := sSeq (sSetN 1 (eRetN (eCall0 m__law_draws (aCons (eVar 0) (aCons (eC (.int 300)) (aNil))))))
  (sSeq (sIf (eOr (eNot (eTru (eRetD (eCall1 0 1 m__law_bases_right (rIo 1 (rCons (eVar 0) (rNil))))))) (eNot (eTru (eRetD (eCall1 0 1 m__law_bases_right (rIo 1 (rCons (eVar 0) (rNil)))))))) (sRet (eC (.bool false))) (sNx))
  (sSeq (sSet 2 (eRetD (eCall1 0 1 m__law_pattern (rIo 1 (rNil)))))
  (sSeq (sIf (eOr (eNot (eTru (eRetD (eCall0 m__law_steps_right (aCons (eVar 2) (aNil)))))) (eNot (eTru (eRetD (eCall0 m__law_two_right (aCons (eVar 2) (aCons (eRetD (eCall1 0 1 m__law_second (rIo 1 (rCons (eVar 2) (rNil))))) (aNil)))))))) (sRet (eC (.bool false))) (sNx))
  (sRet (eAndV (eRetD (eCall0 m__law_two_right (aCons (eRetD (eCall1 0 1 m__law_pattern (rIo 1 (rNil)))) (aCons (eVar 2) (aNil))))) (eRetD (eCall0 m__law_steps_right (aCons (eVar 2) (aNil)))))))))
def m_law : FnS := fnSem 3 [] s_law
theorem mm_law : m_law = fnSem 3 [] s_law := rfl
instance : FnIs m_law 3 [] s_law := ⟨mm_law⟩
theorem ok_law {f : Addr} {fd : FuncData} (F : Fun K "law" "law" t_law f fd) (h__law_bases_right : Cal P w K mg base 13 "_law_bases_right" ["draws", "script"] [0] m__law_bases_right) (h__law_draws : Cal P w K mg base 1 "_law_draws" ["script", "many"] [] m__law_draws) (h__law_pattern : Cal P w K mg base 2 "_law_pattern" ["draws"] [0] m__law_pattern) (h__law_second : Cal P w K mg base 2 "_law_second" ["draws", "rows"] [0] m__law_second) (h__law_steps_right : Cal P w K mg base 5 "_law_steps_right" ["rows"] [] m__law_steps_right) (h__law_two_right : Cal P w K mg base 13 "_law_two_right" ["one", "other"] [] m__law_two_right) : FnD P w K mg base 14 f fd ["script"] [] m_law :=
  pd_fnN (k := 13) [] F sc_law rfl (body := s_law) (fun cdv A outer s H E hr => ⟨_, dss_cons (ds_setN sc_law.nd ((dc_cal0 h__law_draws (hr.mono (by first | exact Nat.le_refl _ | decide | omega)) (da_cons (de_var 0) (da_cons (de_int) (da_nil))) (aLen_cons (aLen_cons (aLen_nil)))).dn) (i := 1))
  (dss_cons (ds_if ((dw_or (dt_not (dt_tru ((dc_cal1 h__law_bases_right (hr.mono (by first | exact Nat.le_refl _ | decide | omega)) (j := 1) (dr_io (dr_cons (de_var 0) (dr_nil)))).de))) (dw_or1 (dt_not (dt_tru ((dc_cal1 h__law_bases_right (hr.mono (by first | exact Nat.le_refl _ | decide | omega)) (j := 1) (dr_io (dr_cons (de_var 0) (dr_nil)))).de))))).dt) (dss_one (ds_ret (de_bl))) (dss_nil))
  (dss_cons (ds_set sc_law.nd ((dc_cal1 h__law_pattern (hr.mono (by first | exact Nat.le_refl _ | decide | omega)) (j := 1) (dr_io (dr_nil))).de) (i := 2))
  (dss_cons (ds_if ((dw_or (dt_not (dt_tru ((dc_cal0 h__law_steps_right (hr.mono (by first | exact Nat.le_refl _ | decide | omega)) (da_cons (de_var 2) (da_nil)) (aLen_cons (aLen_nil))).de))) (dw_or1 (dt_not (dt_tru ((dc_cal0 h__law_two_right (hr.mono (by first | exact Nat.le_refl _ | decide | omega)) (da_cons (de_var 2) (da_cons ((dc_cal1 h__law_second (hr.mono (by first | exact Nat.le_refl _ | decide | omega)) (j := 1) (dr_io (dr_cons (de_var 2) (dr_nil)))).de) (da_nil))) (aLen_cons (aLen_cons (aLen_nil)))).de))))).dt) (dss_one (ds_ret (de_bl))) (dss_nil))
  (dss_one (ds_ret (de_and ((dc_cal0 h__law_two_right (hr.mono (by first | exact Nat.le_refl _ | decide | omega)) (da_cons ((dc_cal1 h__law_pattern (hr.mono (by first | exact Nat.le_refl _ | decide | omega)) (j := 1) (dr_io (dr_nil))).de) (da_cons (de_var 2) (da_nil))) (aLen_cons (aLen_cons (aLen_nil)))).de) (de_one ((dc_cal0 h__law_steps_right (hr.mono (by first | exact Nat.le_refl _ | decide | omega)) (da_cons (de_var 2) (da_nil)) (aLen_cons (aLen_nil))).de))))))))⟩)
end
/-! ### what the top has written -/
theorem all_mk {l : PySem.W.OpenLaw} {w : World} {K : PySem.W.Frag} {h : Heap} {mg : Str → Option Value} {fa : Addr} (X : K.In h) (G : h.Ns mainGlobals mg) (hfa : mg "law" = some (.ref fa))
    {f0 : Addr} {od0 an0 : Option Addr} {sl0 : Array (Option Value)} {oc0 kV0 dc0 pm0 cd0 ct0 : Value}
    {f1 : Addr} {od1 an1 : Option Addr} {sl1 : Array (Option Value)} {oc1 kV1 dc1 pm1 cd1 ct1 : Value}
    {f2 : Addr} {od2 an2 : Option Addr} {sl2 : Array (Option Value)} {oc2 kV2 dc2 pm2 cd2 ct2 : Value}
    {f3 : Addr} {od3 an3 : Option Addr} {sl3 : Array (Option Value)} {oc3 kV3 dc3 pm3 cd3 ct3 : Value}
    {f4 : Addr} {od4 an4 : Option Addr} {sl4 : Array (Option Value)} {oc4 kV4 dc4 pm4 cd4 ct4 : Value}
    {f5 : Addr} {od5 an5 : Option Addr} {sl5 : Array (Option Value)} {oc5 kV5 dc5 pm5 cd5 ct5 : Value}
    {f6 : Addr} {od6 an6 : Option Addr} {sl6 : Array (Option Value)} {oc6 kV6 dc6 pm6 cd6 ct6 : Value}
    {f7 : Addr} {od7 an7 : Option Addr} {sl7 : Array (Option Value)} {oc7 kV7 dc7 pm7 cd7 ct7 : Value}
    {f8 : Addr} {od8 an8 : Option Addr} {sl8 : Array (Option Value)} {oc8 kV8 dc8 pm8 cd8 ct8 : Value}
    {f9 : Addr} {od9 an9 : Option Addr} {sl9 : Array (Option Value)} {oc9 kV9 dc9 pm9 cd9 ct9 : Value}
    {f10 : Addr} {od10 an10 : Option Addr} {sl10 : Array (Option Value)} {oc10 kV10 dc10 pm10 cd10 ct10 : Value}
    {f11 : Addr} {od11 an11 : Option Addr} {sl11 : Array (Option Value)} {oc11 kV11 dc11 pm11 cd11 ct11 : Value}
    {f12 : Addr} {od12 an12 : Option Addr} {sl12 : Array (Option Value)} {oc12 kV12 dc12 pm12 cd12 ct12 : Value}
    {f13 : Addr} {od13 an13 : Option Addr} {sl13 : Array (Option Value)} {oc13 kV13 dc13 pm13 cd13 ct13 : Value}
    {f14 : Addr} {od14 an14 : Option Addr} {sl14 : Array (Option Value)} {oc14 kV14 dc14 pm14 cd14 ct14 : Value}
    {f15 : Addr} {od15 an15 : Option Addr} {sl15 : Array (Option Value)} {oc15 kV15 dc15 pm15 cd15 ct15 : Value}
    {f16 : Addr} {od16 an16 : Option Addr} {sl16 : Array (Option Value)} {oc16 kV16 dc16 pm16 cd16 ct16 : Value}
    {f17 : Addr} {od17 an17 : Option Addr} {sl17 : Array (Option Value)} {oc17 kV17 dc17 pm17 cd17 ct17 : Value}
    {f18 : Addr} {od18 an18 : Option Addr} {sl18 : Array (Option Value)} {oc18 kV18 dc18 pm18 cd18 ct18 : Value}
    {f19 : Addr} {od19 an19 : Option Addr} {sl19 : Array (Option Value)} {oc19 kV19 dc19 pm19 cd19 ct19 : Value}
    {f20 : Addr} {od20 an20 : Option Addr} {sl20 : Array (Option Value)} {oc20 kV20 dc20 pm20 cd20 ct20 : Value}
    {f21 : Addr} {od21 an21 : Option Addr} {sl21 : Array (Option Value)} {oc21 kV21 dc21 pm21 cd21 ct21 : Value}
    {f22 : Addr} {od22 an22 : Option Addr} {sl22 : Array (Option Value)} {oc22 kV22 dc22 pm22 cd22 ct22 : Value}
    {f23 : Addr} {od23 an23 : Option Addr} {sl23 : Array (Option Value)} {oc23 kV23 dc23 pm23 cd23 ct23 : Value}
    {f24 : Addr} {od24 an24 : Option Addr} {sl24 : Array (Option Value)} {oc24 kV24 dc24 pm24 cd24 ct24 : Value}
    {f25 : Addr} {od25 an25 : Option Addr} {sl25 : Array (Option Value)} {oc25 kV25 dc25 pm25 cd25 ct25 : Value}
    {f26 : Addr} {od26 an26 : Option Addr} {sl26 : Array (Option Value)} {oc26 kV26 dc26 pm26 cd26 ct26 : Value}
    {f27 : Addr} {od27 an27 : Option Addr} {sl27 : Array (Option Value)} {oc27 kV27 dc27 pm27 cd27 ct27 : Value}
    {f28 : Addr} {od28 an28 : Option Addr} {sl28 : Array (Option Value)} {oc28 kV28 dc28 pm28 cd28 ct28 : Value}
    {f29 : Addr} {od29 an29 : Option Addr} {sl29 : Array (Option Value)} {oc29 kV29 dc29 pm29 cd29 ct29 : Value}
    {f30 : Addr} {od30 an30 : Option Addr} {sl30 : Array (Option Value)} {oc30 kV30 dc30 pm30 cd30 ct30 : Value}
    {f31 : Addr} {od31 an31 : Option Addr} {sl31 : Array (Option Value)} {oc31 kV31 dc31 pm31 cd31 ct31 : Value}
    (a0 : PySem.W.nsIn K mainGlobals "_law_draws" = some (some (.ref f0))) (l0 : K.lookup f0 = some ⟨oc0, od0, .func (PySem.W.fnOf "_law_draws" "_law_draws" (defArgs t__law_draws) (defBody t__law_draws) (defScope t__law_draws) .none kV0 dc0 pm0 an0 cd0 ct0), sl0⟩) (c0 : PySem.W.codeIn K cd0 "_law_draws" = true) (k0 : PySem.W.keepIn K (.ref f0) = true)
    (a1 : PySem.W.nsIn K mainGlobals "_law_take" = some (some (.ref f1))) (l1 : K.lookup f1 = some ⟨oc1, od1, .func (PySem.W.fnOf "_law_take" "_law_take" (defArgs t__law_take) (defBody t__law_take) (defScope t__law_take) .none kV1 dc1 pm1 an1 cd1 ct1), sl1⟩) (c1 : PySem.W.codeIn K cd1 "_law_take" = true) (k1 : PySem.W.keepIn K (.ref f1) = true)
    (a2 : PySem.W.nsIn K mainGlobals "_law_divisor" = some (some (.ref f2))) (l2 : K.lookup f2 = some ⟨oc2, od2, .func (PySem.W.fnOf "_law_divisor" "_law_divisor" (defArgs t__law_divisor) (defBody t__law_divisor) (defScope t__law_divisor) .none kV2 dc2 pm2 an2 cd2 ct2), sl2⟩) (c2 : PySem.W.codeIn K cd2 "_law_divisor" = true) (k2 : PySem.W.keepIn K (.ref f2) = true)
    (a3 : PySem.W.nsIn K mainGlobals "_law_pattern" = some (some (.ref f3))) (l3 : K.lookup f3 = some ⟨oc3, od3, .func (PySem.W.fnOf "_law_pattern" "_law_pattern" (defArgs t__law_pattern) (defBody t__law_pattern) (defScope t__law_pattern) .none kV3 dc3 pm3 an3 cd3 ct3), sl3⟩) (c3 : PySem.W.codeIn K cd3 "_law_pattern" = true) (k3 : PySem.W.keepIn K (.ref f3) = true)
    (a4 : PySem.W.nsIn K mainGlobals "_law_same" = some (some (.ref f4))) (l4 : K.lookup f4 = some ⟨oc4, od4, .func (PySem.W.fnOf "_law_same" "_law_same" (defArgs t__law_same) (defBody t__law_same) (defScope t__law_same) .none kV4 dc4 pm4 an4 cd4 ct4), sl4⟩) (c4 : PySem.W.codeIn K cd4 "_law_same" = true) (k4 : PySem.W.keepIn K (.ref f4) = true)
    (a5 : PySem.W.nsIn K mainGlobals "divisor" = some (some (.ref f5))) (l5 : K.lookup f5 = some ⟨oc5, od5, .func (PySem.W.fnOf "divisor" "divisor" (defArgs t_divisor) (defBody t_divisor) (defScope t_divisor) .none kV5 dc5 pm5 an5 cd5 ct5), sl5⟩) (c5 : PySem.W.codeIn K cd5 "divisor" = true) (k5 : PySem.W.keepIn K (.ref f5) = true)
    (a6 : PySem.W.nsIn K mainGlobals "block_of" = some (some (.ref f6))) (l6 : K.lookup f6 = some ⟨oc6, od6, .func (PySem.W.fnOf "block_of" "block_of" (defArgs t_block_of) (defBody t_block_of) (defScope t_block_of) .none kV6 dc6 pm6 an6 cd6 ct6), sl6⟩) (c6 : PySem.W.codeIn K cd6 "block_of" = true) (k6 : PySem.W.keepIn K (.ref f6) = true)
    (a7 : PySem.W.nsIn K mainGlobals "sign_of" = some (some (.ref f7))) (l7 : K.lookup f7 = some ⟨oc7, od7, .func (PySem.W.fnOf "sign_of" "sign_of" (defArgs t_sign_of) (defBody t_sign_of) (defScope t_sign_of) .none kV7 dc7 pm7 an7 cd7 ct7), sl7⟩) (c7 : PySem.W.codeIn K cd7 "sign_of" = true) (k7 : PySem.W.keepIn K (.ref f7) = true)
    (a8 : PySem.W.nsIn K mainGlobals "same_pattern" = some (some (.ref f8))) (l8 : K.lookup f8 = some ⟨oc8, od8, .func (PySem.W.fnOf "same_pattern" "same_pattern" (defArgs t_same_pattern) (defBody t_same_pattern) (defScope t_same_pattern) .none kV8 dc8 pm8 an8 cd8 ct8), sl8⟩) (c8 : PySem.W.codeIn K cd8 "same_pattern" = true) (k8 : PySem.W.keepIn K (.ref f8) = true)
    (a9 : PySem.W.nsIn K mainGlobals "is_moved_by" = some (some (.ref f9))) (l9 : K.lookup f9 = some ⟨oc9, od9, .func (PySem.W.fnOf "is_moved_by" "is_moved_by" (defArgs t_is_moved_by) (defBody t_is_moved_by) (defScope t_is_moved_by) .none kV9 dc9 pm9 an9 cd9 ct9), sl9⟩) (c9 : PySem.W.codeIn K cd9 "is_moved_by" = true) (k9 : PySem.W.keepIn K (.ref f9) = true)
    (a10 : PySem.W.nsIn K mainGlobals "moved_alike" = some (some (.ref f10))) (l10 : K.lookup f10 = some ⟨oc10, od10, .func (PySem.W.fnOf "moved_alike" "moved_alike" (defArgs t_moved_alike) (defBody t_moved_alike) (defScope t_moved_alike) .none kV10 dc10 pm10 an10 cd10 ct10), sl10⟩) (c10 : PySem.W.codeIn K cd10 "moved_alike" = true) (k10 : PySem.W.keepIn K (.ref f10) = true)
    (a11 : PySem.W.nsIn K mainGlobals "_law_sign" = some (some (.ref f11))) (l11 : K.lookup f11 = some ⟨oc11, od11, .func (PySem.W.fnOf "_law_sign" "_law_sign" (defArgs t__law_sign) (defBody t__law_sign) (defScope t__law_sign) .none kV11 dc11 pm11 an11 cd11 ct11), sl11⟩) (c11 : PySem.W.codeIn K cd11 "_law_sign" = true) (k11 : PySem.W.keepIn K (.ref f11) = true)
    (a12 : PySem.W.nsIn K mainGlobals "_law_carried" = some (some (.ref f12))) (l12 : K.lookup f12 = some ⟨oc12, od12, .func (PySem.W.fnOf "_law_carried" "_law_carried" (defArgs t__law_carried) (defBody t__law_carried) (defScope t__law_carried) .none kV12 dc12 pm12 an12 cd12 ct12), sl12⟩) (c12 : PySem.W.codeIn K cd12 "_law_carried" = true) (k12 : PySem.W.keepIn K (.ref f12) = true)
    (a13 : PySem.W.nsIn K mainGlobals "_law_two_right" = some (some (.ref f13))) (l13 : K.lookup f13 = some ⟨oc13, od13, .func (PySem.W.fnOf "_law_two_right" "_law_two_right" (defArgs t__law_two_right) (defBody t__law_two_right) (defScope t__law_two_right) .none kV13 dc13 pm13 an13 cd13 ct13), sl13⟩) (c13 : PySem.W.codeIn K cd13 "_law_two_right" = true) (k13 : PySem.W.keepIn K (.ref f13) = true)
    (a14 : PySem.W.nsIn K mainGlobals "added" = some (some (.ref f14))) (l14 : K.lookup f14 = some ⟨oc14, od14, .func (PySem.W.fnOf "added" "added" (defArgs t_added) (defBody t_added) (defScope t_added) .none kV14 dc14 pm14 an14 cd14 ct14), sl14⟩) (c14 : PySem.W.codeIn K cd14 "added" = true) (k14 : PySem.W.keepIn K (.ref f14) = true)
    (a15 : PySem.W.nsIn K mainGlobals "base_of" = some (some (.ref f15))) (l15 : K.lookup f15 = some ⟨oc15, od15, .func (PySem.W.fnOf "base_of" "base_of" (defArgs t_base_of) (defBody t_base_of) (defScope t_base_of) .none kV15 dc15 pm15 an15 cd15 ct15), sl15⟩) (c15 : PySem.W.codeIn K cd15 "base_of" = true) (k15 : PySem.W.keepIn K (.ref f15) = true)
    (a16 : PySem.W.nsIn K mainGlobals "steps_of" = some (some (.ref f16))) (l16 : K.lookup f16 = some ⟨oc16, od16, .func (PySem.W.fnOf "steps_of" "steps_of" (defArgs t_steps_of) (defBody t_steps_of) (defScope t_steps_of) .none kV16 dc16 pm16 an16 cd16 ct16), sl16⟩) (c16 : PySem.W.codeIn K cd16 "steps_of" = true) (k16 : PySem.W.keepIn K (.ref f16) = true)
    (a17 : PySem.W.nsIn K mainGlobals "_law_is_base" = some (some (.ref f17))) (l17 : K.lookup f17 = some ⟨oc17, od17, .func (PySem.W.fnOf "_law_is_base" "_law_is_base" (defArgs t__law_is_base) (defBody t__law_is_base) (defScope t__law_is_base) .none kV17 dc17 pm17 an17 cd17 ct17), sl17⟩) (c17 : PySem.W.codeIn K cd17 "_law_is_base" = true) (k17 : PySem.W.keepIn K (.ref f17) = true)
    (a18 : PySem.W.nsIn K mainGlobals "_law_has" = some (some (.ref f18))) (l18 : K.lookup f18 = some ⟨oc18, od18, .func (PySem.W.fnOf "_law_has" "_law_has" (defArgs t__law_has) (defBody t__law_has) (defScope t__law_has) .none kV18 dc18 pm18 an18 cd18 ct18), sl18⟩) (c18 : PySem.W.codeIn K cd18 "_law_has" = true) (k18 : PySem.W.keepIn K (.ref f18) = true)
    (a19 : PySem.W.nsIn K mainGlobals "_law_steps_right" = some (some (.ref f19))) (l19 : K.lookup f19 = some ⟨oc19, od19, .func (PySem.W.fnOf "_law_steps_right" "_law_steps_right" (defArgs t__law_steps_right) (defBody t__law_steps_right) (defScope t__law_steps_right) .none kV19 dc19 pm19 an19 cd19 ct19), sl19⟩) (c19 : PySem.W.codeIn K cd19 "_law_steps_right" = true) (k19 : PySem.W.keepIn K (.ref f19) = true)
    (a20 : PySem.W.nsIn K mainGlobals "_law_number" = some (some (.ref f20))) (l20 : K.lookup f20 = some ⟨oc20, od20, .func (PySem.W.fnOf "_law_number" "_law_number" (defArgs t__law_number) (defBody t__law_number) (defScope t__law_number) .none kV20 dc20 pm20 an20 cd20 ct20), sl20⟩) (c20 : PySem.W.codeIn K cd20 "_law_number" = true) (k20 : PySem.W.keepIn K (.ref f20) = true)
    (a21 : PySem.W.nsIn K mainGlobals "_law_steps" = some (some (.ref f21))) (l21 : K.lookup f21 = some ⟨oc21, od21, .func (PySem.W.fnOf "_law_steps" "_law_steps" (defArgs t__law_steps) (defBody t__law_steps) (defScope t__law_steps) .none kV21 dc21 pm21 an21 cd21 ct21), sl21⟩) (c21 : PySem.W.codeIn K cd21 "_law_steps" = true) (k21 : PySem.W.keepIn K (.ref f21) = true)
    (a22 : PySem.W.nsIn K mainGlobals "_law_small_base" = some (some (.ref f22))) (l22 : K.lookup f22 = some ⟨oc22, od22, .func (PySem.W.fnOf "_law_small_base" "_law_small_base" (defArgs t__law_small_base) (defBody t__law_small_base) (defScope t__law_small_base) .none kV22 dc22 pm22 an22 cd22 ct22), sl22⟩) (c22 : PySem.W.codeIn K cd22 "_law_small_base" = true) (k22 : PySem.W.keepIn K (.ref f22) = true)
    (a23 : PySem.W.nsIn K mainGlobals "_law_index" = some (some (.ref f23))) (l23 : K.lookup f23 = some ⟨oc23, od23, .func (PySem.W.fnOf "_law_index" "_law_index" (defArgs t__law_index) (defBody t__law_index) (defScope t__law_index) .none kV23 dc23 pm23 an23 cd23 ct23), sl23⟩) (c23 : PySem.W.codeIn K cd23 "_law_index" = true) (k23 : PySem.W.keepIn K (.ref f23) = true)
    (a24 : PySem.W.nsIn K mainGlobals "_law_base_right" = some (some (.ref f24))) (l24 : K.lookup f24 = some ⟨oc24, od24, .func (PySem.W.fnOf "_law_base_right" "_law_base_right" (defArgs t__law_base_right) (defBody t__law_base_right) (defScope t__law_base_right) .none kV24 dc24 pm24 an24 cd24 ct24), sl24⟩) (c24 : PySem.W.codeIn K cd24 "_law_base_right" = true) (k24 : PySem.W.keepIn K (.ref f24) = true)
    (a25 : PySem.W.nsIn K mainGlobals "joined_lattice" = some (some (.ref f25))) (l25 : K.lookup f25 = some ⟨oc25, od25, .func (PySem.W.fnOf "joined_lattice" "joined_lattice" (defArgs t_joined_lattice) (defBody t_joined_lattice) (defScope t_joined_lattice) .none kV25 dc25 pm25 an25 cd25 ct25), sl25⟩) (c25 : PySem.W.codeIn K cd25 "joined_lattice" = true) (k25 : PySem.W.keepIn K (.ref f25) = true)
    (a26 : PySem.W.nsIn K mainGlobals "index_of" = some (some (.ref f26))) (l26 : K.lookup f26 = some ⟨oc26, od26, .func (PySem.W.fnOf "index_of" "index_of" (defArgs t_index_of) (defBody t_index_of) (defScope t_index_of) .none kV26 dc26 pm26 an26 cd26 ct26), sl26⟩) (c26 : PySem.W.codeIn K cd26 "index_of" = true) (k26 : PySem.W.keepIn K (.ref f26) = true)
    (a27 : PySem.W.nsIn K mainGlobals "_law_counted" = some (some (.ref f27))) (l27 : K.lookup f27 = some ⟨oc27, od27, .func (PySem.W.fnOf "_law_counted" "_law_counted" (defArgs t__law_counted) (defBody t__law_counted) (defScope t__law_counted) .none kV27 dc27 pm27 an27 cd27 ct27), sl27⟩) (c27 : PySem.W.codeIn K cd27 "_law_counted" = true) (k27 : PySem.W.keepIn K (.ref f27) = true)
    (a28 : PySem.W.nsIn K mainGlobals "has_step" = some (some (.ref f28))) (l28 : K.lookup f28 = some ⟨oc28, od28, .func (PySem.W.fnOf "has_step" "has_step" (defArgs t_has_step) (defBody t_has_step) (defScope t_has_step) .none kV28 dc28 pm28 an28 cd28 ct28), sl28⟩) (c28 : PySem.W.codeIn K cd28 "has_step" = true) (k28 : PySem.W.keepIn K (.ref f28) = true)
    (a29 : PySem.W.nsIn K mainGlobals "_law_bases_right" = some (some (.ref f29))) (l29 : K.lookup f29 = some ⟨oc29, od29, .func (PySem.W.fnOf "_law_bases_right" "_law_bases_right" (defArgs t__law_bases_right) (defBody t__law_bases_right) (defScope t__law_bases_right) .none kV29 dc29 pm29 an29 cd29 ct29), sl29⟩) (c29 : PySem.W.codeIn K cd29 "_law_bases_right" = true) (k29 : PySem.W.keepIn K (.ref f29) = true)
    (a30 : PySem.W.nsIn K mainGlobals "_law_second" = some (some (.ref f30))) (l30 : K.lookup f30 = some ⟨oc30, od30, .func (PySem.W.fnOf "_law_second" "_law_second" (defArgs t__law_second) (defBody t__law_second) (defScope t__law_second) .none kV30 dc30 pm30 an30 cd30 ct30), sl30⟩) (c30 : PySem.W.codeIn K cd30 "_law_second" = true) (k30 : PySem.W.keepIn K (.ref f30) = true)
    (a31 : PySem.W.nsIn K mainGlobals "law" = some (some (.ref f31))) (l31 : K.lookup f31 = some ⟨oc31, od31, .func (PySem.W.fnOf "law" "law" (defArgs t_law) (defBody t_law) (defScope t_law) .none kV31 dc31 pm31 an31 cd31 ct31), sl31⟩) (c31 : PySem.W.codeIn K cd31 "law" = true) (k31 : PySem.W.keepIn K (.ref f31) = true)
    (z_abs : PySem.W.nsIn K mainGlobals "abs" = some none)
    (z_bool : PySem.W.nsIn K mainGlobals "bool" = some none)
    (z_int : PySem.W.nsIn K mainGlobals "int" = some none)
    (z_isinstance : PySem.W.nsIn K mainGlobals "isinstance" = some none)
    (z_len : PySem.W.nsIn K mainGlobals "len" = some none)
    (z_list : PySem.W.nsIn K mainGlobals "list" = some none)
    (z_range : PySem.W.nsIn K mainGlobals "range" = some none)
    (z_str : PySem.W.nsIn K mainGlobals "str" = some none)
    (z_tuple : PySem.W.nsIn K mainGlobals "tuple" = some none) :
    ∃ fd : FuncData, (∀ (s : Shared) (v : Value), BindsTo s fd ⟨[v], []⟩ [("script", v)]) ∧ ∀ base : Heap, K.In base → base.Ns mainGlobals mg → FnOk l.prog w K mg base CX0 14 fa fd ["script"] (fun vs H Q E => vs.length = ["script"].length ∧ spD K [] m_law vs H Q E) := by
  have e := hfa.symm.trans (PySem.W.mg_of X G a31)
  cases e
  have z_abs' := PySem.W.mg_none_of X G z_abs
  have z_bool' := PySem.W.mg_none_of X G z_bool
  have z_int' := PySem.W.mg_none_of X G z_int
  have z_isinstance' := PySem.W.mg_none_of X G z_isinstance
  have z_len' := PySem.W.mg_none_of X G z_len
  have z_list' := PySem.W.mg_none_of X G z_list
  have z_range' := PySem.W.mg_none_of X G z_range
  have z_str' := PySem.W.mg_none_of X G z_str
  have z_tuple' := PySem.W.mg_none_of X G z_tuple
  have S0 : Src K mg "_law_draws" t__law_draws ["script", "many"] := src_mk (PySem.W.mg_of X G a0) l0 c0 k0 (fun _ _ _ _ _ _ us hl => match us, hl with | [_, _], _ => rfl)
  have S1 : Src K mg "_law_take" t__law_take ["draws", "many"] := src_mk (PySem.W.mg_of X G a1) l1 c1 k1 (fun _ _ _ _ _ _ us hl => match us, hl with | [_, _], _ => rfl)
  have S2 : Src K mg "_law_divisor" t__law_divisor ["one", "other"] := src_mk (PySem.W.mg_of X G a2) l2 c2 k2 (fun _ _ _ _ _ _ us hl => match us, hl with | [_, _], _ => rfl)
  have S3 : Src K mg "_law_pattern" t__law_pattern ["draws"] := src_mk (PySem.W.mg_of X G a3) l3 c3 k3 (fun _ _ _ _ _ _ us hl => match us, hl with | [_], _ => rfl)
  have S4 : Src K mg "_law_same" t__law_same ["actual", "due"] := src_mk (PySem.W.mg_of X G a4) l4 c4 k4 (fun _ _ _ _ _ _ us hl => match us, hl with | [_, _], _ => rfl)
  have S5 : Src K mg "divisor" t_divisor ["one", "other"] := src_mk (PySem.W.mg_of X G a5) l5 c5 k5 (fun _ _ _ _ _ _ us hl => match us, hl with | [_, _], _ => rfl)
  have S6 : Src K mg "block_of" t_block_of ["one", "other"] := src_mk (PySem.W.mg_of X G a6) l6 c6 k6 (fun _ _ _ _ _ _ us hl => match us, hl with | [_, _], _ => rfl)
  have S7 : Src K mg "sign_of" t_sign_of ["rows", "place"] := src_mk (PySem.W.mg_of X G a7) l7 c7 k7 (fun _ _ _ _ _ _ us hl => match us, hl with | [_, _], _ => rfl)
  have S8 : Src K mg "same_pattern" t_same_pattern ["one", "other"] := src_mk (PySem.W.mg_of X G a8) l8 c8 k8 (fun _ _ _ _ _ _ us hl => match us, hl with | [_, _], _ => rfl)
  have S9 : Src K mg "is_moved_by" t_is_moved_by ["one", "other", "step", "wide", "high"] := src_mk (PySem.W.mg_of X G a9) l9 c9 k9 (fun _ _ _ _ _ _ us hl => match us, hl with | [_, _, _, _, _], _ => rfl)
  have S10 : Src K mg "moved_alike" t_moved_alike ["one", "other"] := src_mk (PySem.W.mg_of X G a10) l10 c10 k10 (fun _ _ _ _ _ _ us hl => match us, hl with | [_, _], _ => rfl)
  have S11 : Src K mg "_law_sign" t__law_sign ["rows", "x", "y"] := src_mk (PySem.W.mg_of X G a11) l11 c11 k11 (fun _ _ _ _ _ _ us hl => match us, hl with | [_, _, _], _ => rfl)
  have S12 : Src K mg "_law_carried" t__law_carried ["one", "other", "step", "wide", "high"] := src_mk (PySem.W.mg_of X G a12) l12 c12 k12 (fun _ _ _ _ _ _ us hl => match us, hl with | [_, _, _, _, _], _ => rfl)
  have S13 : Src K mg "_law_two_right" t__law_two_right ["one", "other"] := src_mk (PySem.W.mg_of X G a13) l13 c13 k13 (fun _ _ _ _ _ _ us hl => match us, hl with | [_, _], _ => rfl)
  have S14 : Src K mg "added" t_added ["base", "step"] := src_mk (PySem.W.mg_of X G a14) l14 c14 k14 (fun _ _ _ _ _ _ us hl => match us, hl with | [_, _], _ => rfl)
  have S15 : Src K mg "base_of" t_base_of ["steps"] := src_mk (PySem.W.mg_of X G a15) l15 c15 k15 (fun _ _ _ _ _ _ us hl => match us, hl with | [_], _ => rfl)
  have S16 : Src K mg "steps_of" t_steps_of ["rows"] := src_mk (PySem.W.mg_of X G a16) l16 c16 k16 (fun _ _ _ _ _ _ us hl => match us, hl with | [_], _ => rfl)
  have S17 : Src K mg "_law_is_base" t__law_is_base ["told"] := src_mk (PySem.W.mg_of X G a17) l17 c17 k17 (fun _ _ _ _ _ _ us hl => match us, hl with | [_], _ => rfl)
  have S18 : Src K mg "_law_has" t__law_has ["base", "step"] := src_mk (PySem.W.mg_of X G a18) l18 c18 k18 (fun _ _ _ _ _ _ us hl => match us, hl with | [_, _], _ => rfl)
  have S19 : Src K mg "_law_steps_right" t__law_steps_right ["rows"] := src_mk (PySem.W.mg_of X G a19) l19 c19 k19 (fun _ _ _ _ _ _ us hl => match us, hl with | [_], _ => rfl)
  have S20 : Src K mg "_law_number" t__law_number ["draws", "script"] := src_mk (PySem.W.mg_of X G a20) l20 c20 k20 (fun _ _ _ _ _ _ us hl => match us, hl with | [_, _], _ => rfl)
  have S21 : Src K mg "_law_steps" t__law_steps ["draws", "script"] := src_mk (PySem.W.mg_of X G a21) l21 c21 k21 (fun _ _ _ _ _ _ us hl => match us, hl with | [_, _], _ => rfl)
  have S22 : Src K mg "_law_small_base" t__law_small_base ["draws"] := src_mk (PySem.W.mg_of X G a22) l22 c22 k22 (fun _ _ _ _ _ _ us hl => match us, hl with | [_], _ => rfl)
  have S23 : Src K mg "_law_index" t__law_index ["steps"] := src_mk (PySem.W.mg_of X G a23) l23 c23 k23 (fun _ _ _ _ _ _ us hl => match us, hl with | [_], _ => rfl)
  have S24 : Src K mg "_law_base_right" t__law_base_right ["told", "steps"] := src_mk (PySem.W.mg_of X G a24) l24 c24 k24 (fun _ _ _ _ _ _ us hl => match us, hl with | [_, _], _ => rfl)
  have S25 : Src K mg "joined_lattice" t_joined_lattice ["one", "other"] := src_mk (PySem.W.mg_of X G a25) l25 c25 k25 (fun _ _ _ _ _ _ us hl => match us, hl with | [_, _], _ => rfl)
  have S26 : Src K mg "index_of" t_index_of ["base"] := src_mk (PySem.W.mg_of X G a26) l26 c26 k26 (fun _ _ _ _ _ _ us hl => match us, hl with | [_], _ => rfl)
  have S27 : Src K mg "_law_counted" t__law_counted ["base"] := src_mk (PySem.W.mg_of X G a27) l27 c27 k27 (fun _ _ _ _ _ _ us hl => match us, hl with | [_], _ => rfl)
  have S28 : Src K mg "has_step" t_has_step ["base", "step"] := src_mk (PySem.W.mg_of X G a28) l28 c28 k28 (fun _ _ _ _ _ _ us hl => match us, hl with | [_, _], _ => rfl)
  have S29 : Src K mg "_law_bases_right" t__law_bases_right ["draws", "script"] := src_mk (PySem.W.mg_of X G a29) l29 c29 k29 (fun _ _ _ _ _ _ us hl => match us, hl with | [_, _], _ => rfl)
  have S30 : Src K mg "_law_second" t__law_second ["draws", "rows"] := src_mk (PySem.W.mg_of X G a30) l30 c30 k30 (fun _ _ _ _ _ _ us hl => match us, hl with | [_, _], _ => rfl)
  refine ⟨PySem.W.fnOf "law" "law" (defArgs t_law) (defBody t_law) (defScope t_law) .none kV31 dc31 pm31 an31 cd31 ct31, fun s v => .of_eq rfl, fun base _ _ => ?_⟩
  have h__law_draws := ok__law_draws (P := l.prog) (w := w) (base := base) S0 z_int' z_len' z_list' z_range'
  have h__law_take := ok__law_take (P := l.prog) (w := w) (base := base) S1 z_int' z_len'
  have h__law_divisor := ok__law_divisor (P := l.prog) (w := w) (base := base) S2 z_abs' z_int' z_range'
  have h__law_pattern := ok__law_pattern (P := l.prog) (w := w) (base := base) S3 h__law_divisor h__law_take z_int' z_len' z_range' z_tuple'
  have h__law_same := ok__law_same (P := l.prog) (w := w) (base := base) S4 z_bool' z_int' z_isinstance' z_len' z_range' z_str' z_tuple' 12
  have h_divisor := ok_divisor (P := l.prog) (w := w) (base := base) S5 z_abs'
  have h_block_of := ok_block_of (P := l.prog) (w := w) (base := base) S6 h_divisor z_len'
  have h_sign_of := ok_sign_of (P := l.prog) (w := w) (base := base) S7 z_len'
  have h_same_pattern := ok_same_pattern (P := l.prog) (w := w) (base := base) S8 h_block_of h_sign_of z_range'
  have h_is_moved_by := ok_is_moved_by (P := l.prog) (w := w) (base := base) S9 h_sign_of z_range'
  have h_moved_alike := ok_moved_alike (P := l.prog) (w := w) (base := base) S10 h_block_of h_is_moved_by z_len' z_range'
  have h__law_sign := ok__law_sign (P := l.prog) (w := w) (base := base) S11 z_int' z_len'
  have h__law_carried := ok__law_carried (P := l.prog) (w := w) (base := base) S12 h__law_sign z_range'
  have h__law_two_right := ok__law_two_right (P := l.prog) (w := w) (base := base) S13 h__law_carried h__law_divisor h__law_same h__law_sign h_moved_alike h_same_pattern z_len' z_range'
  have h_added := ok_added (P := l.prog) (w := w) (base := base) S14 h_divisor
  have h_base_of := ok_base_of (P := l.prog) (w := w) (base := base) S15 h_added
  have h_steps_of := ok_steps_of (P := l.prog) (w := w) (base := base) S16 h_base_of h_is_moved_by z_len' z_range' z_tuple'
  have h__law_is_base := ok__law_is_base (P := l.prog) (w := w) (base := base) S17 z_bool' z_int' z_isinstance' z_len' z_tuple'
  have h__law_has := ok__law_has (P := l.prog) (w := w) (base := base) S18 z_int'
  have h__law_steps_right := ok__law_steps_right (P := l.prog) (w := w) (base := base) S19 h__law_carried h__law_has h__law_is_base h_steps_of z_len' z_range'
  have h__law_number := ok__law_number (P := l.prog) (w := w) (base := base) S20 h__law_take z_abs' z_int' z_len'
  have h__law_steps := ok__law_steps (P := l.prog) (w := w) (base := base) S21 h__law_number h__law_take z_range' z_tuple'
  have h__law_small_base := ok__law_small_base (P := l.prog) (w := w) (base := base) S22 h__law_take
  have h__law_index := ok__law_index (P := l.prog) (w := w) (base := base) S23 h__law_divisor z_len' z_range'
  have h__law_base_right := ok__law_base_right (P := l.prog) (w := w) (base := base) S24 h__law_has h__law_index h__law_is_base z_len'
  have h_joined_lattice := ok_joined_lattice (P := l.prog) (w := w) (base := base) S25 h_base_of
  have h_index_of := ok_index_of (P := l.prog) (w := w) (base := base) S26 
  have h__law_counted := ok__law_counted (P := l.prog) (w := w) (base := base) S27 h__law_has z_len' z_range'
  have h_has_step := ok_has_step (P := l.prog) (w := w) (base := base) S28 
  have h__law_bases_right := ok__law_bases_right (P := l.prog) (w := w) (base := base) S29 h__law_base_right h__law_counted h__law_has h__law_number h__law_same h__law_small_base h__law_steps h_base_of h_has_step h_index_of h_joined_lattice
  have h__law_second := ok__law_second (P := l.prog) (w := w) (base := base) S30 h__law_sign h__law_take z_len' z_tuple'
  exact ok_law (fun_mk (st := t_law) l31 c31 k31) h__law_bases_right h__law_draws h__law_pattern h__law_second h__law_steps_right h__law_two_right
end
end L2.G

namespace L2.G
open PySem PySem.Spec PyProof.Rows L2 L2.Pd
/-! ## the laws' own draws -/
def tk (ns : List Int) (n : Int) : Int := match ns.getLast? with
  | none => 0
  | some z => z.fmod n
theorem tk_nn {ns : List Int} {n : Int} (h : 0 < n) : 0 ≤ tk ns n := by
  unfold tk
  split
  · exact Int.le_refl 0
  · exact Int.fmod_nonneg_of_pos _ h
theorem tk_lt {ns : List Int} {n : Int} (h : 0 < n) : tk ns n < n := by
  unfold tk
  split
  · exact h
  · exact Int.fmod_lt_of_pos _ h
@[simp] theorem v_take (ns : List Int) (n : Int) (hn : n ≠ 0) : m__law_take [.ol (is ns), .sh (.int n)] = some (.sh (.int (tk ns n)), [.ol (is ns.dropLast), .sh (.int n)]) := by
  rcases List.eq_nil_or_concat ns with rfl | ⟨r, z, rfl⟩
  · exact fn_io (ρ' := [.ol [], .sh (.int n)]) (by simp [s__law_take, tk]) rfl rfl
  · have h0 : ((r.length : Int) + 1 == 0) = false := by
      rw [beq_eq_false_iff_ne]
      omega
    refine (fn_io (m := m__law_take) (cs := [.ol (is (r.concat z)), .sh (.int n)]) (ρ' := [.ol (is r), .sh (.int n)]) (c := .sh (.int (z.fmod n))) ?_ rfl rfl).trans ?_
    · simp [s__law_take, lPop, hn, h0]
    · simp [tk]; rfl
@[simp] theorem okD_is (ns : List Int) : PyData.canLayAll0 (is ns) = true := by
  induction ns with
  | nil => rfl
  | cons n r ih => simp [ih]
@[simp] theorem dpA_is (ns : List Int) : PyData.depthAll (is ns) = 0 := by
  induction ns with
  | nil => rfl
  | cons n r ih => simp [ih]
/-! the list of the draws -/
@[simp] theorem atI_is {ns : List Int} {i : Int} (h0 : 0 ≤ i) (h1 : i < ns.length) : atI (is ns) i = some (.int (ns[i.toNat]'(by omega))) := by
  refine atI_in h0 ?_
  rw [is_get, List.getElem?_eq_getElem (by omega)]
  rfl
theorem v_draws (ns : List Int) (many : Int) (hl : ns.length ≤ 63) (h0 : 0 ≤ many) (h1 : many ≤ 5000) : ∃ ds : List Int, m__law_draws [.sh (.list (is ns)), .sh (.int many)] = some (.ol (is ds), []) := by
  have e1 : k__law_draws_1 [.sh (.list (is ns)), .sh (.int many), .dead, .dead, .dead, .dead, .dead, .dead, .dead] = some (.ol (is ns), [.sh (.list (is ns)), .sh (.int many), .dead, .dead, .dead, .dead, .dead, .dead, .dead]) := by
    rw [kk__law_draws_1]
    refine (ev_compA PyData.int PyData.int ns (ρi := [.sh (.list (is ns)), .sh (.int many), .dead, .dead, .dead, .dead, .dead, .dead, .dead]) rfl rfl (by simp [sizeLine]; omega) fun y _ => by refine ⟨_, _, rfl, rfl, ?_⟩; rfl).trans rfl
  obtain ⟨cells, hc0, hc1, e2⟩ : ∃ cells : List Int, cells ≠ [] ∧ cells.length ≤ 64 ∧ (sIf (eTst (eBin (fun x y => (bEq x y).map .bool) (eLenOwn 2) (eC (.int 0)))) (sExpr (eMeth 2 lAppend (aCons (eC (.int 0)) (aNil)))) (sNx)) [.sh (.list (is ns)), .sh (.int many), .ol (is ns), .dead, .dead, .dead, .dead, .dead, .dead] = some (.nx [.sh (.list (is ns)), .sh (.int many), .ol (is cells), .dead, .dead, .dead, .dead, .dead, .dead]) := by
    cases ns with
    | nil => exact ⟨[0], by simp, by simp, by simp [lAppend, sizeLine]⟩
    | cons n r =>
      have h0 : ((r.length : Int) + 1 == 0) = false := by
        rw [beq_eq_false_iff_ne]
        omega
      exact ⟨n :: r, by simp, by simp at hl ⊢; omega, by simp [h0]⟩
  -- the turns
  have hn0 : cells.length ≠ 0 := fun z => hc0 (List.eq_nil_of_length_eq_zero z)
  have hn : (0 : Int) < cells.length := by omega
  have hp : (10 : Int) ^ 18 = 1000000000000000000 := by decide
  have hp2 : (Builtin.Int.intBits 10 : Int) * 18 ≤ 134217728 := by decide
  have lp := loop_invN (xs0 := (List.range many.toNat).map (fun k : Nat => PyData.int (k : Int))) (ks := [5, 6, 7]) (b := fun x ρ => (gNm 5 x ρ).bind b__law_draws_1) (fun k : Nat => PyData.int (k : Int)) (fun r ρ => ∃ rest ds : List Int, rest.length = cells.length ∧ ds.length + r.length ≤ 5000 ∧ ρ = [.sh (.list (is ns)), .sh (.int many), .sh (.list (is cells)), .ol (is rest), .ol (is ds), .dead, .dead, .dead, .dead]) (fun k r ρ h => by
    obtain ⟨rest, ds, hr, hd, rfl⟩ := h
    rw [List.length_cons] at hd
    have hat0 : 0 ≤ (k : Int).fmod cells.length := Int.fmod_nonneg_of_pos _ hn
    have hat1 : (k : Int).fmod cells.length < cells.length := Int.fmod_lt_of_pos _ hn
    generalize hat : (k : Int).fmod cells.length = at_ at hat0 hat1
    have hat2 : at_ < rest.length := by omega
    have hdl : ds.length < 16777216 := by omega
    have hml : ∀ a : Int, mulOk a 48271 = true := fun a => by simp [mulOk]
    have hml2 : mulOk (k : Int) 69621 = true := by simp [mulOk]
    have hmm : ∀ a : Int, mulOk (a.fmod 2147483647) (a.fmod 2147483647) = true := fun a => mulOk_l (Nat.lt_of_lt_of_le (fmod_abs (by decide)) (by decide))
    have hm3 : ∀ a : Int, mulOk 3 a = true := fun a => mulOk_l (by decide)
    by_cases hb1 : (1000000000000000000 : Int) ≤ cells[at_.toNat]'(by omega)
    · have hq : Builtin.divisionGoesByPylong (rest[at_.toNat]'(by omega)) 1000 = false := PyProof.noPylong_small (by decide)
      simp [b__law_draws_1, hn0, hat, hat0, hat1, hat2, dPow, hp2, hb1, lAppend, sizeLine, hdl, hq, ixN_in]
      refine ⟨rest.set at_.toNat ((rest[at_.toNat]'(by omega)).fdiv 1000), by simp [hr], ds ++ [(rest[at_.toNat]'(by omega)).fmod 1000], by simp; omega, ?_, ?_⟩
      · rw [is_set]
      · simp
    · simp [b__law_draws_1, hn0, hat, hat0, hat1, hat2, dPow, hp2, hb1, lAppend, sizeLine, hdl, hml, hml2, hmm, hm3]
      exact ⟨rest, hr, ds ++ [_], by simp; omega, rfl, is_snoc⟩)
  have e3 : (sSetN 4 (eLst aNil)) [.sh (.list (is ns)), .sh (.int many), .sh (.list (is cells)), .ol (is cells), .dead, .dead, .dead, .dead, .dead] = some (.nx [.sh (.list (is ns)), .sh (.int many), .sh (.list (is cells)), .ol (is cells), .ol (is []), .dead, .dead, .dead, .dead]) := by simp [sizeLine]
  obtain ⟨ρ', e4, rest, ds, _, _, rfl⟩ := lp (List.range many.toNat) [.sh (.list (is ns)), .sh (.int many), .sh (.list (is cells)), .ol (is cells), .ol (is []), .dead, .dead, .dead, .dead] ⟨cells, [], rfl, by simp; omega, rfl⟩
  have e5 : l__law_draws_1 [.sh (.list (is ns)), .sh (.int many), .sh (.list (is cells)), .ol (is cells), .ol (is []), .dead, .dead, .dead, .dead] = some (.nx [.sh (.list (is ns)), .sh (.int many), .sh (.list (is cells)), .ol (is rest), .ol (is ds), .dead, .dead, .dead, .dead]) := by
    exact for_hx ll__law_draws_1 (ev_r1 rfl h0 (by omega)) e4
  refine ⟨ds.reverse, fn_ret (ρ' := [.sh (.list (is ns)), .sh (.int many), .sh (.list (is cells)), .ol (is rest), .dead, .dead, .dead, .dead, .dead]) ?_⟩
  have e6 : s__law_draws [.sh (.list (is ns)), .sh (.int many), .dead, .dead, .dead, .dead, .dead, .dead, .dead] = some (.rt (.ol (is ds.reverse)) [.sh (.list (is ns)), .sh (.int many), .sh (.list (is cells)), .ol (is rest), .dead, .dead, .dead, .dead, .dead]) := by
    unfold s__law_draws
    rw [seq_nx (setN_nx e1)]
    refine (seq_nx e2).trans ?_
    refine (seq_nx (ρ1 := [.sh (.list (is ns)), .sh (.int many), .sh (.list (is cells)), .ol (is cells), .dead, .dead, .dead, .dead, .dead]) (by simp [cList])).trans ?_
    rw [seq_nx e3, seq_nx e5]
    simp [lReverse, sRetOwn, is_rev]
  exact e6
/-! ### the laws' comparison -/
mutual
def sok : Nat → D → Bool
  | _, .none => true
  | _, .bool _ => true
  | _, .int _ => true
  | _, .str x => PyData.strOk x
  | 0, .tuple _ => false
  | n + 1, .tuple ds => soks n ds && decide (ds.length ≤ 1000000)
  | _, _ => false
def soks : Nat → List D → Bool
  | _, [] => true
  | n, d :: ds => sok n d && soks n ds
end
theorem soks_get {n : Nat} : ∀ {ds : List D} {i : Nat} {d : D}, soks n ds = true → ds[i]? = some d → sok n d = true
  | [], i, d, _, e => by simp at e
  | u :: r, 0, d, h, e => by
    simp at e; subst e
    rw [soks, Bool.and_eq_true] at h
    exact h.1
  | u :: r, i + 1, d, h, e => by
    rw [soks, Bool.and_eq_true] at h
    exact soks_get (i := i) h.2 (by simpa using e)
theorem v_same : ∀ (n : Nat) (d : D), sok n d = true → m__law_same (n + 1) [.sh d, .sh d] = some (.sh (.bool true), []) := by
  intro n
  induction n with
  | zero =>
    intro d h
    cases d with
    | none => exact fn_ret (ρ' := [.sh .none, .sh .none, .dead]) (by simp [s__law_same])
    | bool b => exact fn_ret (ρ' := [.sh (.bool b), .sh (.bool b), .dead]) (by simp [s__law_same])
    | int b => exact fn_ret (ρ' := [.sh (.int b), .sh (.int b), .dead]) (by simp [s__law_same])
    | str b => exact fn_ret (ρ' := [.sh (.str b), .sh (.str b), .dead]) (by simp [s__law_same, ev_eqR (d := .str b) (by simpa [ev_okD, sok] using h)])
    | _ => simp [sok] at h
  | succ n ih =>
    intro d h
    cases d with
    | none => exact fn_ret (ρ' := [.sh .none, .sh .none, .dead]) (by simp [s__law_same])
    | bool b => exact fn_ret (ρ' := [.sh (.bool b), .sh (.bool b), .dead]) (by simp [s__law_same])
    | int b => exact fn_ret (ρ' := [.sh (.int b), .sh (.int b), .dead]) (by simp [s__law_same])
    | str b => exact fn_ret (ρ' := [.sh (.str b), .sh (.str b), .dead]) (by simp [s__law_same, ev_eqR (d := .str b) (by simpa [ev_okD, sok] using h)])
    | tuple ds =>
      rw [sok, Bool.and_eq_true, decide_eq_true_eq] at h
      have hr := ev_r1 (a := aCons (eCB cLen (aCons (eVar 1) aNil)) aNil) (ρ := [.sh (.tuple ds), .sh (.tuple ds), .dead]) (ρ1 := [.sh (.tuple ds), .sh (.tuple ds), .dead]) (n := ds.length) rfl (by omega) (by omega)
      have lp := loop_same (fun k : Nat => PyData.int (k : Int)) (xs0 := (List.range ((ds.length : Int)).toNat).map (fun k : Nat => PyData.int (k : Int))) (ks := [2]) (b := fun x ρ => (gNm 2 x ρ).bind (b__law_same_1 (m__law_same (n + 1)))) (ρ0 := [.sh (.tuple ds), .sh (.tuple ds), .dead]) (List.range ((ds.length : Int)).toNat) (fun k hk => by
        have hk : k < ds.length := by simpa using hk
        have e1 : atI ds (k : Int) = some ds[k] := atI_nat (List.getElem?_eq_getElem hk)
        have e2 := ih ds[k] (soks_get h.1 (List.getElem?_eq_getElem hk))
        refine ⟨[.sh (.tuple ds), .sh (.tuple ds), .sh (.int k)], .inl ?_, rfl⟩
        simp [b__law_same_1, e1, e2]) (ρ := [.sh (.tuple ds), .sh (.tuple ds), .dead]) rfl
      have el : l__law_same_1 (m__law_same (n + 1)) [.sh (.tuple ds), .sh (.tuple ds), .dead] = some (.nx [.sh (.tuple ds), .sh (.tuple ds), .dead]) := for_hx (ll__law_same_1 _) hr lp
      have hne : eOr (eNot (eTru (eIsi "tuple" (eVar 0)))) (eTst (eBin (fun x y => (bNe x y).map .bool) (eCB cLen (aCons (eVar 0) (aNil))) (eCB cLen (aCons (eVar 1) (aNil))))) [.sh (.tuple ds), .sh (.tuple ds), .dead] = some (false, [.sh (.tuple ds), .sh (.tuple ds), .dead]) := by simp
      refine fn_ret (ρ' := [.sh (.tuple ds), .sh (.tuple ds), .dead]) ?_
      show s__law_same (m__law_same (n + 1)) [.sh (.tuple ds), .sh (.tuple ds), .dead] = _
      unfold s__law_same
      refine (seq_nx (if_f (ρ1 := [.sh (.tuple ds), .sh (.tuple ds), .dead]) (by simp))).trans ?_
      refine (seq_nx (if_f (ρ1 := [.sh (.tuple ds), .sh (.tuple ds), .dead]) (by simp))).trans ?_
      refine (seq_nx (if_f (ρ1 := [.sh (.tuple ds), .sh (.tuple ds), .dead]) (by simp))).trans ?_
      --if4
      refine (seq_nx (if_f (ρ1 := [.sh (.tuple ds), .sh (.tuple ds), .dead]) (by simp))).trans ?_
      --fi4
      refine (seq_nx (if_f (ρ1 := [.sh (.tuple ds), .sh (.tuple ds), .dead]) hne)).trans ?_
      refine (seq_nx el).trans ?_
      rfl
    | _ => simp [sok] at h

/-! ## numbers that are not negative -/
theorem fmN (a b : Nat) : Int.fmod (a : Int) (b : Int) = ((a % b : Nat) : Int) := by
  rw [Int.fmod_eq_emod_of_nonneg _ (by omega)]; rfl
theorem fdN (a b : Nat) : Int.fdiv (a : Int) (b : Int) = ((a / b : Nat) : Int) := by
  rw [Int.fdiv_eq_ediv_of_nonneg _ (by omega)]; rfl
theorem bdN {n a : Nat} (h : a < 2 ^ n) : Bd n (a : Int) := by unfold Bd; rw [Int.natAbs_natCast]; exact h
theorem bdN_iff {n a : Nat} : Bd n (a : Int) ↔ a < 2 ^ n := by unfold Bd; rw [Int.natAbs_natCast]
theorem mulN {n m a b : Nat} (ha : a < 2 ^ n) (hb : b < 2 ^ m) (e : n + m ≤ 100000000) : mulOk (a : Int) (b : Int) = true := (bdN ha).mulOk (bdN hb) e
theorem noPyN {a : Int} {n b : Nat} (h : b < 2 ^ n) (e : n ≤ 8999) : Builtin.divisionGoesByPylong a (b : Int) = false := noPy (bdN h) e
theorem ltN {n a b : Nat} (h : b < 2 ^ n) (k : a ≤ b) : a < 2 ^ n := Nat.lt_of_le_of_lt k h
theorem modN {n a b : Nat} (h : b < 2 ^ n) (k : 0 < b) : a % b < 2 ^ n := Nat.lt_trans (Nat.mod_lt _ k) h

/-! ## the greatest common divisor -/
def absN (z : Int) : Int := if z < 0 then -z else z
theorem absN_nat (z : Int) : absN z = (z.natAbs : Int) := by unfold absN; split <;> omega
theorem w_div : ∀ (y x : Nat), l_divisor_1 [.sh (.int ((x : Int))), .sh (.int ((y : Int)))] = some (.nx [.sh (.int ((Nat.gcd x y : Int))), .sh (.int (0))]) := by
  rw [ll_divisor_1]
  intro y
  induction y using Nat.strongRecOn with
  | _ y ih =>
    intro x
    by_cases h0 : y = 0
    · subst h0
      rw [Nat.gcd_zero_right]
      exact sWhile_done (p := (false, [.sh (.int ((x : Int))), .sh (.int (0))])) (by
        show eTst (eBin (fun x y => (bGt x y).map .bool) (eVar 1) (eC (.int 0))) [.sh (.int ((x : Int))), .sh (.int (((0 : Nat) : Int)))] = _
        simp) rfl
    · have hlt := Nat.mod_lt x (show 0 < y by omega)
      have e := ih (x % y) hlt y
      have hg : Nat.gcd y (x % y) = Nat.gcd x y := by rw [Nat.gcd_comm x y, Nat.gcd_rec y x, Nat.gcd_comm]
      rw [hg] at e
      refine sWhile_step (p := (true, [.sh (.int ((x : Int))), .sh (.int ((y : Int)))])) (ρ1 := [.sh (.int ((y : Int))), .sh (.int (((x % y : Nat) : Int)))]) ?_ rfl ?_ e
      · have hp : 0 < y := by omega
        show eTst (eBin (fun x y => (bGt x y).map .bool) (eVar 1) (eC (.int 0))) [.sh (.int ((x : Int))), .sh (.int ((y : Int)))] = _
        simp [hp]
      · have hf := fmN x y
        have hn : (y : Int) ≠ 0 := by omega
        rw [← hf]
        clear hf e ih hg hlt
        generalize (x : Int) = X at *
        generalize (y : Int) = Y at *
        simp [b_divisor_1, hn]
theorem v_divisor {x y : Int} : m_divisor [.sh (.int x), .sh (.int y)] = some (.sh (.int (Int.gcd x y : Int)), []) := by
  have e := w_div y.natAbs x.natAbs
  have hx : (if x < 0 then -x else x) = (x.natAbs : Int) := absN_nat x
  have hyy : (if y < 0 then -y else y) = (y.natAbs : Int) := absN_nat y
  have hg : (Nat.gcd x.natAbs y.natAbs : Int) = (Int.gcd x y : Int) := rfl
  rw [hg] at e
  clear hg
  generalize (Int.gcd x y : Int) = g at *
  generalize (x.natAbs : Int) = X at *
  generalize (y.natAbs : Int) = Y at *
  exact fn_ret (by
    show s_divisor [.sh (.int (x)), .sh (.int (y))] = _
    unfold s_divisor
    refine (seq_nx (ρ1 := [.sh (.int (X)), .sh (.int (Y))]) (by simp [hx, hyy])).trans ?_
    refine (seq_nx e).trans ?_
    simp
    rfl)
theorem w_ldiv {xs0 : List D} : ∀ (n x y : Nat) (ks : List Nat) (u2 u3 : Cell), y < 2 ^ n → n ≤ 8999 → 2 * n + 1 ≤ ks.length → 
    loopF none xs0 [2, 3] (fun x ρ => (gNm 2 x ρ).bind b__law_divisor_1) (ks.map fun k : Nat => PyData.int (k : Int)) [.sh (.int ((x : Int))), .sh (.int ((y : Int))), u2, u3] = some (.nx [.sh (.int ((Nat.gcd x y : Int))), .sh (.int (0)), .dead, .dead]) := by
  have stp : ∀ (x y k : Nat), 0 < y → y < 2 ^ 8999 → b__law_divisor_1 [.sh (.int ((x : Int))), .sh (.int ((y : Int))), .sh (.int ((k : Int))), .dead] = some (.nx [.sh (.int ((y : Int))), .sh (.int (((x % y : Nat) : Int))), .sh (.int ((k : Int))), .sh (.int (((x % y : Nat) : Int)))]) := fun x y k h0 hy => by
    have hpy : Builtin.divisionGoesByPylong (x : Int) (y : Int) = false := noPyN hy (by decide)
    have hf := fmN x y
    have hn : (y : Int) ≠ 0 := by omega
    have hb : ((y : Int) == 0) = false := by rw [beq_eq_false_iff_ne]; exact hn
    rw [← hf]
    clear hf hy h0
    generalize (x : Int) = X at *
    generalize (y : Int) = Y at *
    simp [b__law_divisor_1, hpy, hn, hb]
  have brk : ∀ (x k : Nat), b__law_divisor_1 [.sh (.int ((x : Int))), .sh (.int (0)), .sh (.int ((k : Int))), .dead] = some (.bk [.sh (.int ((x : Int))), .sh (.int (0)), .sh (.int ((k : Int))), .dead]) := fun x k => by
    generalize (x : Int) = X at *
    simp [b__law_divisor_1]
  have fin : ∀ (x : Nat) (k : Nat) (r : List Nat) (u2 u3 : Cell), loopF none xs0 [2, 3] (fun x ρ => (gNm 2 x ρ).bind b__law_divisor_1) ((k :: r).map fun k : Nat => PyData.int (k : Int)) [.sh (.int ((x : Int))), .sh (.int (0)), u2, u3] = some (.nx [.sh (.int ((x : Int))), .sh (.int (0)), .dead, .dead]) := fun x k r u2 u3 => by
    rw [List.map_cons]
    exact (loop_brk (ρ' := [.sh (.int ((x : Int))), .sh (.int (0)), .sh (.int ((k : Int))), .dead]) rfl (by rw [bind_gnm]; exact brk x k)).trans rfl
  have hg : ∀ x y : Nat, Nat.gcd y (x % y) = Nat.gcd x y := fun x y => by rw [Nat.gcd_comm x y, Nat.gcd_rec y x, Nat.gcd_comm]
  intro n
  induction n with
  | zero =>
    intro x y ks u2 u3 hy _ hk
    have : y = 0 := by simpa using hy
    subst this
    obtain ⟨k, r, rfl⟩ : ∃ k r, ks = k :: r := by
      cases ks with
      | nil => simp at hk
      | cons k r => exact ⟨k, r, rfl⟩
    rw [Nat.gcd_zero_right]
    exact fin x k r u2 u3
  | succ n ih =>
    intro x y ks u2 u3 hy hn hk
    obtain ⟨k, k2, r, rfl⟩ : ∃ k k2 r, ks = k :: k2 :: r := by
      match ks, hk with
      | [], hk => simp at hk
      | [_], hk => simp at hk
      | k :: k2 :: r, _ => exact ⟨k, k2, r, rfl⟩
    rw [List.length_cons, List.length_cons] at hk
    have hbig : (2 : Nat) ^ (n + 1) ≤ 2 ^ 8999 := Nat.pow_le_pow_right (by decide) hn
    by_cases h0 : y = 0
    · subst h0
      rw [Nat.gcd_zero_right]
      exact fin x k _ u2 u3
    · have s1 := stp x y k (by omega) (by omega)
      have hlt := Nat.mod_lt x (show 0 < y by omega)
      refine (loop_cons rfl (by rw [bind_gnm]; exact s1)).trans ?_
      rw [← hg x y]
      by_cases h1 : x % y = 0
      · rw [h1, Nat.gcd_zero_right]
        exact fin y k2 r _ _
      · have s2 := stp y (x % y) k2 (by omega) (by omega)
        have hlt2 := Nat.mod_lt y (show 0 < x % y by omega)
        have hhalf : y % (x % y) < 2 ^ n := by
          have h3 : y % (x % y) + x % y ≤ y := by
            have := Nat.div_add_mod y (x % y)
            have hd : 1 ≤ y / (x % y) := (Nat.one_le_div_iff (by omega)).mpr (by omega)
            have : x % y ≤ (x % y) * (y / (x % y)) := Nat.le_mul_of_pos_right _ hd
            omega
          rw [Nat.pow_succ] at hy
          omega
        refine (loop_cons rfl (by rw [bind_gnm]; exact s2)).trans ?_
        rw [← hg y (x % y)]
        exact ih (x % y) (y % (x % y)) r _ _ hhalf (by omega) (by omega)
theorem v_ldivisor {x y : Int} (hy : y.natAbs < 2 ^ 399) : m__law_divisor [.sh (.int x), .sh (.int y)] = some (.sh (.int (Int.gcd x y : Int)), []) := by
  have e := w_ldiv (xs0 := (List.range 800).map fun k : Nat => PyData.int (k : Int)) 399 x.natAbs y.natAbs (List.range 800) .dead .dead hy (by decide) (by decide)
  have hx : (if x < 0 then -x else x) = (x.natAbs : Int) := absN_nat x
  have hyy : (if y < 0 then -y else y) = (y.natAbs : Int) := absN_nat y
  have hg : (Nat.gcd x.natAbs y.natAbs : Int) = (Int.gcd x y : Int) := rfl
  rw [hg] at e
  have el : l__law_divisor_1 [.sh (.int ((x.natAbs : Int))), .sh (.int ((y.natAbs : Int))), .dead, .dead] = some (.nx [.sh (.int ((Int.gcd x y : Int))), .sh (.int (0)), .dead, .dead]) :=
    for_hx ll__law_divisor_1 ((ev_r1 (n := 800) (ρ1 := [.sh (.int ((x.natAbs : Int))), .sh (.int ((y.natAbs : Int))), .dead, .dead]) rfl (by decide) (by decide)).trans rfl) e
  clear hy hg e
  generalize (Int.gcd x y : Int) = g at *
  generalize (x.natAbs : Int) = X at *
  generalize (y.natAbs : Int) = Y at *
  exact fn_ret (by
    show s__law_divisor [.sh (.int (x)), .sh (.int (y)), .dead, .dead] = _
    unfold s__law_divisor
    refine (seq_nx (ρ1 := [.sh (.int (X)), .sh (.int (y)), .dead, .dead]) (by simp [hx])).trans ?_
    refine (seq_nx (ρ1 := [.sh (.int (X)), .sh (.int (Y)), .dead, .dead]) (by simp [hyy])).trans ?_
    refine (seq_nx el).trans ?_
    simp
    rfl)


/-! ## the steps of a base -/
def bsD (a b d : Int) : D := .tuple [.tuple [.int a, .int b], .tuple [.int 0, .int d]]
def ptD (v : Int × Int) : D := .tuple [.int v.1, .int v.2]
def hasB (a b d x y : Int) : Bool := decide (x % a = 0) && decide ((y - x / a * b) % d = 0)
theorem fm_pos {x a : Int} (h : 1 ≤ a) : x.fmod a = x % a := Int.fmod_eq_emod_of_nonneg _ (by omega)
theorem fd_pos {x a : Int} (h : 1 ≤ a) : x.fdiv a = x / a := Int.fdiv_eq_ediv_of_nonneg _ (by omega)
theorem v_has_step {a b d x y : Int} (ha : 1 ≤ a) (hd : 1 ≤ d) (ba : Bd 2000 a) (bb : Bd 2000 b) (bd : Bd 2000 d) (bx : Bd 4000 x) : m_has_step [.sh (bsD a b d), .sh (ptD (x, y))] = some (.sh (.bool (hasB a b d x y)), []) := by
  have p1 : Builtin.divisionGoesByPylong x a = false := noPy ba (by decide)
  have p2 : Builtin.divisionGoesByPylong (y - x / a * b) d = false := noPy bd (by decide)
  have hq : Bd 4000 (x / a) := by
    refine bx.le ?_
    have h2 := Int.lt_ediv_add_one_mul_self x (show 0 < a by omega)
    have h1 := Int.ediv_mul_le x (show a ≠ 0 by omega)
    generalize x / a = q at *
    by_cases hq0 : 0 ≤ q
    · have h3 : 0 ≤ q * (a - 1) := Int.mul_nonneg hq0 (by omega)
      rw [Int.mul_sub, Int.mul_one] at h3
      omega
    · have h3 : 0 ≤ -(q + 1) * (a - 1) := Int.mul_nonneg (by omega) (by omega)
      rw [Int.mul_sub, Int.mul_one, Int.neg_mul] at h3
      by_cases hx0 : 0 ≤ x
      · have h4 : 0 ≤ -(q + 1) * a := Int.mul_nonneg (by omega) (by omega)
        rw [Int.neg_mul] at h4
        omega
      · omega
  have hm : mulOk (x / a) b = true := hq.mulOk bb (by decide)
  have n1 : a ≠ 0 := by omega
  have n2 : d ≠ 0 := by omega
  have f1 := fm_pos (x := x) ha
  have f2 := fd_pos (x := x) ha
  have f3 := fm_pos (x := y - x / a * b) hd
  unfold bsD ptD hasB
  exact fn_ret (by
    show s_has_step [.sh (.tuple ([.tuple [.int a, .int b], .tuple [.int 0, .int d]])), .sh (.tuple ([.int x, .int y])), .dead, .dead, .dead, .dead, .dead, .dead] = _
    unfold s_has_step
    refine (seq_nx (ρ1 := [.sh (.tuple ([.tuple [.int a, .int b], .tuple [.int 0, .int d]])), .sh (.tuple ([.int x, .int y])), .sh (.int (a)), .sh (.int (b)), .sh (.int (0)), .sh (.int (d)), .dead, .dead]) (by simp)).trans ?_
    refine (seq_nx (ρ1 := [.sh (.tuple ([.tuple [.int a, .int b], .tuple [.int 0, .int d]])), .sh (.tuple ([.int x, .int y])), .sh (.int (a)), .sh (.int (b)), .sh (.int (0)), .sh (.int (d)), .sh (.int (x)), .sh (.int (y))]) (by simp)).trans ?_
    by_cases h : x % a = 0
    · by_cases h5 : (y - x / a * b) % d = 0
      · simp [p1, p2, hm, n1, n2, f1, f2, f3, h, h5]
        rfl
      · simp [p1, p2, hm, n1, n2, f1, f2, f3, h, h5]
    · simp [p1, n1, f1, h])


/-! ## lattices: plain -/
abbrev Pt := Int × Int
def det2 (u v : Pt) : Int := u.1 * v.2 - u.2 * v.1
def spn (u v w : Pt) : Prop := ∃ m n : Int, w.1 = m * u.1 + n * v.1 ∧ w.2 = m * u.2 + n * v.2
theorem spn_l (u v : Pt) : spn u v u := ⟨1, 0, by omega, by omega⟩
theorem spn_r (u v : Pt) : spn u v v := ⟨0, 1, by omega, by omega⟩
theorem spn_trans {u v p q w : Pt} (h1 : spn p q u) (h2 : spn p q v) (h : spn u v w) : spn p q w := by
  obtain ⟨a, b, e1, e2⟩ := h1
  obtain ⟨c, d, e3, e4⟩ := h2
  obtain ⟨m, n, e5, e6⟩ := h
  refine ⟨m * a + n * c, m * b + n * d, ?_, ?_⟩
  · rw [e5, e1, e3]; grind
  · rw [e6, e2, e4]; grind
/-- what is closed under differences -/
structure Sub (P : Pt → Prop) : Prop where
  z : P (0, 0)
  s : ∀ u v : Pt, P u → P v → P (u.1 - v.1, u.2 - v.2)
theorem Sub.neg {P : Pt → Prop} (S : Sub P) {u : Pt} (h : P u) : P (-u.1, -u.2) := by
  have := S.s _ _ S.z h
  simpa using this
theorem Sub.add {P : Pt → Prop} (S : Sub P) {u v : Pt} (h : P u) (k : P v) : P (u.1 + v.1, u.2 + v.2) := by
  have := S.s _ _ h (S.neg k)
  simpa using this
theorem Sub.nmul {P : Pt → Prop} (S : Sub P) {u : Pt} (h : P u) : ∀ n : Nat, P ((n : Int) * u.1, (n : Int) * u.2)
  | 0 => by simpa using S.z
  | n + 1 => by
    have := S.add (S.nmul h n) h
    simp only at this
    rw [show ((n + 1 : Nat) : Int) * u.1 = (n : Int) * u.1 + u.1 by push_cast; grind, show ((n + 1 : Nat) : Int) * u.2 = (n : Int) * u.2 + u.2 by push_cast; grind]
    exact this
theorem Sub.mul {P : Pt → Prop} (S : Sub P) {u : Pt} (h : P u) (m : Int) : P (m * u.1, m * u.2) := by
  rcases Int.le_total 0 m with hm | hm
  · have := S.nmul h m.toNat
    rwa [Int.toNat_of_nonneg hm] at this
  · have := S.neg (S.nmul h (-m).toNat)
    rw [Int.toNat_of_nonneg (by omega)] at this
    simpa [Int.neg_mul] using this
theorem Sub.spn {P : Pt → Prop} (S : Sub P) {u v w : Pt} (hu : P u) (hv : P v) (h : spn u v w) : P w := by
  obtain ⟨m, n, e1, e2⟩ := h
  have := S.add (S.mul hu m) (S.mul hv n)
  simp only at this
  rw [← e1, ← e2] at this
  exact this
theorem Sub.gcdN {P : Pt → Prop} (S : Sub P) : ∀ (m n : Nat), P (0, (m : Int)) → P (0, (n : Int)) → P (0, (Nat.gcd m n : Int)) := by
  intro m n
  induction m, n using Nat.gcd.induction with
  | H0 n => intro _ h; rw [Nat.gcd_zero_left]; exact h
  | H1 m n hp ih =>
    intro h1 h2
    rw [Nat.gcd_rec]
    refine ih ?_ h1
    have h3 := S.s _ _ h2 (S.mul h1 ((n / m : Nat) : Int))
    simp only at h3
    have e : ((n % m : Nat) : Int) = (n : Int) - ((n / m : Nat) : Int) * (m : Int) := by
      have := Nat.div_add_mod n m
      have h4 : (((n / m) * m : Nat) : Int) = ((n / m : Nat) : Int) * (m : Int) := Int.natCast_mul _ _
      have h5 : m * (n / m) = (n / m) * m := Nat.mul_comm _ _
      omega
    rw [e]
    simpa using h3
theorem Sub.abs {P : Pt → Prop} (S : Sub P) {z : Int} (h : P (0, z)) : P (0, (z.natAbs : Int)) := by
  rcases Int.le_total 0 z with hz | hz
  · rw [Int.natAbs_of_nonneg hz]; exact h
  · have := S.neg h
    rw [show (z.natAbs : Int) = -z by omega]
    simpa using this
theorem Sub.gcd {P : Pt → Prop} (S : Sub P) {d e : Int} (h : P (0, d)) (k : P (0, e)) : P (0, (Int.gcd d e : Int)) := S.gcdN _ _ (S.abs h) (S.abs k)
def InL (L : List Pt) (w : Pt) : Prop := ∀ P : Pt → Prop, Sub P → (∀ s ∈ L, P s) → P w
theorem inL_sub (L : List Pt) : Sub (InL L) where
  z := fun P S _ => S.z
  s := fun u v hu hv P S h => S.s _ _ (hu P S h) (hv P S h)
theorem inL_mem {L : List Pt} {w : Pt} (h : w ∈ L) : InL L w := fun P _ k => k w h
theorem inL_mono {L M : List Pt} {w : Pt} (h : ∀ s ∈ L, s ∈ M) (k : InL L w) : InL M w := fun P S g => k P S fun s hs => g s (h s hs)
/-! ### one step of Euclid -/
def euS (k : Int) (u v : Pt) : Pt := (u.1 - k * v.1, u.2 - k * v.2)
structure EuR (u v u' v' : Pt) : Prop where
  f1 : spn u v u'
  f2 : spn u v v'
  b1 : spn u' v' u
  b2 : spn u' v' v
theorem EuR.refl (u v : Pt) : EuR u v u v := ⟨spn_l u v, spn_r u v, spn_l u v, spn_r u v⟩
theorem EuR.trans {u v p q r s : Pt} (A : EuR u v p q) (B : EuR p q r s) : EuR u v r s :=
  ⟨spn_trans A.f1 A.f2 B.f1, spn_trans A.f1 A.f2 B.f2, spn_trans B.b1 B.b2 A.b1, spn_trans B.b1 B.b2 A.b2⟩
theorem euS_rel (k : Int) (u v : Pt) : EuR u v v (euS k u v) where
  f1 := spn_r u v
  f2 := ⟨1, -k, by unfold euS; grind, by unfold euS; grind⟩
  b1 := ⟨k, 1, by unfold euS; grind, by unfold euS; grind⟩
  b2 := spn_l _ _
theorem euS_x (u v : Pt) : (euS (u.1.fdiv v.1) u v).1 = u.1.fmod v.1 := by
  unfold euS
  rw [Int.fmod_def]
  grind
theorem fm_neg (a b : Int) : a.fmod b = -((-a).fmod (-b)) := by
  rw [Int.fmod_def, Int.fmod_def, Int.neg_fdiv_neg]
  grind
theorem fm_lt {a b : Int} (h : b ≠ 0) : (a.fmod b).natAbs < b.natAbs := by
  rcases Int.lt_or_gt_of_ne h with hb | hb
  · have h1 := Int.fmod_nonneg_of_pos (-a) (show 0 < -b by omega)
    have h2 := Int.fmod_lt_of_pos (-a) (show 0 < -b by omega)
    rw [fm_neg]
    omega
  · have h1 := Int.fmod_nonneg_of_pos a hb
    have h2 := Int.fmod_lt_of_pos a hb
    omega
theorem fm_two' {b r : Int} (h1 : 0 < r) (h2 : r < b) : 2 * (b.fmod r).natAbs < b.natAbs := by
  have h3 := Int.fmod_nonneg_of_pos b h1
  have h4 := Int.fmod_lt_of_pos b h1
  have h5 := Int.fmod_def b r
  have h6 : 1 ≤ b.fdiv r := by
    rw [Int.fdiv_eq_ediv_of_nonneg _ (by omega)]
    exact (Int.le_ediv_iff_mul_le h1).mpr (by omega)
  have h7 : r * 1 ≤ r * b.fdiv r := Int.mul_le_mul_of_nonneg_left h6 (by omega)
  omega
theorem fm_two {a b : Int} (h : b ≠ 0) (hr : a.fmod b ≠ 0) : 2 * (b.fmod (a.fmod b)).natAbs < b.natAbs := by
  rcases Int.lt_or_gt_of_ne h with hb | hb
  · have h1 := Int.fmod_nonneg_of_pos (-a) (show 0 < -b by omega)
    have h2 := Int.fmod_lt_of_pos (-a) (show 0 < -b by omega)
    have e := fm_neg a b
    have h3 := fm_two' (b := -b) (r := (-a).fmod (-b)) (by omega) (by omega)
    rw [fm_neg b (a.fmod b), e, Int.neg_neg, Int.natAbs_neg]
    omega
  · have h1 := Int.fmod_nonneg_of_pos a hb
    have h2 := Int.fmod_lt_of_pos a hb
    exact fm_two' (by omega) h2
theorem fd_le {a b : Int} (h : b ≠ 0) : (a.fdiv b).natAbs ≤ a.natAbs := by
  have key : ∀ (a b : Int), 0 < b → (a.fdiv b).natAbs ≤ a.natAbs := fun x a ha => by
    rw [Int.fdiv_eq_ediv_of_nonneg _ (by omega)]
    have h2 := Int.lt_ediv_add_one_mul_self x ha
    have h1 := Int.ediv_mul_le x (show a ≠ 0 by omega)
    generalize x / a = q at *
    by_cases hq0 : 0 ≤ q
    · have h3 : 0 ≤ q * (a - 1) := Int.mul_nonneg hq0 (by omega)
      rw [Int.mul_sub, Int.mul_one] at h3
      omega
    · have h3 : 0 ≤ -(q + 1) * (a - 1) := Int.mul_nonneg (by omega) (by omega)
      rw [Int.mul_sub, Int.mul_one, Int.neg_mul] at h3
      by_cases hx0 : 0 ≤ x
      · have h4 : 0 ≤ -(q + 1) * a := Int.mul_nonneg (by omega) (by omega)
        rw [Int.neg_mul] at h4
        omega
      · omega
  rcases Int.lt_or_gt_of_ne h with hb | hb
  · have := key (-a) (-b) (by omega)
    rwa [Int.neg_fdiv_neg, Int.natAbs_neg] at this
  · exact key a b hb
/-! ## the walk of `added` -/
theorem st_added {u0 u1 : Cell} {u v : Pt} {B : Nat} (h0 : v.1 ≠ 0) (hu : Bd 700 u.1) (hv : Bd 700 v.1) (hv2 : Bd B v.2) (hB : B ≤ 10000000) : b_added_1 [u0, u1, .sh (ptD u), .sh (ptD v), .dead] = some (.nx [u0, u1, .sh (ptD v), .sh (ptD (euS (u.1.fdiv v.1) u v)), .sh (.int ((u.1.fdiv v.1)))]) := by
  have hk : Bd 700 (u.1.fdiv v.1) := hu.le (fd_le h0)
  have m1 : mulOk (u.1.fdiv v.1) v.1 = true := hk.mulOk hv (by omega)
  have m2 : mulOk (u.1.fdiv v.1) v.2 = true := hk.mulOk hv2 (by omega)
  have hp : Builtin.divisionGoesByPylong u.1 v.1 = false := noPy hv (by decide)
  have i1 : dIx (ptD u) (.int 0) = some (.int u.1) := rfl
  have i2 : dIx (ptD u) (.int 1) = some (.int u.2) := rfl
  have i3 : dIx (ptD v) (.int 0) = some (.int v.1) := rfl
  have i4 : dIx (ptD v) (.int 1) = some (.int v.2) := rfl
  have z2 : 2 ≤ sizeLine := by decide
  have ee : ptD (euS (u.1.fdiv v.1) u v) = .tuple [.int (u.1 - u.1.fdiv v.1 * v.1), .int (u.2 - u.1.fdiv v.1 * v.2)] := rfl
  rw [ee]
  generalize hk' : u.1.fdiv v.1 = k at *
  generalize ptD u = U at *
  generalize ptD v = V at *
  simp [b_added_1, i1, i2, i3, i4, h0, hp, m1, m2, z2, hk']
theorem bd_euS {u v : Pt} {B : Nat} {k : Int} (hk : Bd 700 k) (hu2 : Bd B u.2) (hv2 : Bd B v.2) : Bd (B + 702) (euS k u v).2 := by
  have h := hu2.sub (hk.mul hv2)
  exact h.mono (by omega)
theorem w_added {u0 u1 : Cell} : ∀ (n : Nat) (u v : Pt) (B : Nat) (u4 : Cell), v.1.natAbs < 2 ^ n → n ≤ 700 → Bd 700 u.1 → Bd B u.2 → Bd B v.2 → B + n * 1500 ≤ 9000000 → ∃ u' v' : Pt, EuR u v u' v' ∧ v'.1 = 0 ∧ Bd 700 u'.1 ∧ Bd (B + n * 1500) u'.2 ∧ Bd (B + n * 1500) v'.2 ∧
    l_added_1 [u0, u1, .sh (ptD u), .sh (ptD v), u4] = some (.nx [u0, u1, .sh (ptD u'), .sh (ptD v'), .dead]) := by
  rw [ll_added_1]
  have dn : ∀ (u v : Pt) (u4 : Cell), v.1 = 0 → sWhile [4] (eTst (eBin (fun x y => (bNe x y).map .bool) (eBin dIx (eVar 3) (eC (.int 0))) (eC (.int 0)))) b_added_1 [u0, u1, .sh (ptD u), .sh (ptD v), u4] = some (.nx [u0, u1, .sh (ptD u), .sh (ptD v), .dead]) := fun u v u4 h => by
    have i3 : dIx (ptD v) (.int 0) = some (.int v.1) := rfl
    refine sWhile_done (p := (false, [u0, u1, .sh (ptD u), .sh (ptD v), .dead])) ?_ rfl
    show eTst (eBin (fun x y => (bNe x y).map .bool) (eBin dIx (eVar 3) (eC (.int 0))) (eC (.int 0))) [u0, u1, .sh (ptD u), .sh (ptD v), .dead] = _
    rw [h] at i3
    generalize ptD u = U at *
    generalize ptD v = V at *
    simp [i3]
  have st : ∀ (u v : Pt) (B : Nat) (u4 : Cell) (o : Out), v.1 ≠ 0 → Bd 700 u.1 → Bd 700 v.1 → Bd B v.2 → B ≤ 10000000 → sWhile [4] (eTst (eBin (fun x y => (bNe x y).map .bool) (eBin dIx (eVar 3) (eC (.int 0))) (eC (.int 0)))) b_added_1 [u0, u1, .sh (ptD v), .sh (ptD (euS (u.1.fdiv v.1) u v)), .sh (.int ((u.1.fdiv v.1)))] = some o → sWhile [4] (eTst (eBin (fun x y => (bNe x y).map .bool) (eBin dIx (eVar 3) (eC (.int 0))) (eC (.int 0)))) b_added_1 [u0, u1, .sh (ptD u), .sh (ptD v), u4] = some o := fun u v B u4 o h hu hv hv2 hB e => by
    have i3 : dIx (ptD v) (.int 0) = some (.int v.1) := rfl
    refine sWhile_step (p := (true, [u0, u1, .sh (ptD u), .sh (ptD v), .dead])) ?_ rfl (st_added h hu hv hv2 hB) e
    show eTst (eBin (fun x y => (bNe x y).map .bool) (eBin dIx (eVar 3) (eC (.int 0))) (eC (.int 0))) [u0, u1, .sh (ptD u), .sh (ptD v), .dead] = _
    generalize ptD u = U at *
    generalize ptD v = V at *
    simp [i3, h]
  intro n
  induction n with
  | zero =>
    intro u v B u4 hv _ hu hu2 hv2 _
    have h0 : v.1 = 0 := by have : v.1.natAbs < 1 := hv; omega
    exact ⟨u, v, EuR.refl u v, h0, hu, hu2, hv2, dn u v u4 h0⟩
  | succ n ih =>
    intro u v B u4 hv hn hu hu2 hv2 hB
    have bv : Bd 700 v.1 := Nat.lt_of_lt_of_le hv (two_le hn)
    by_cases h0 : v.1 = 0
    · exact ⟨u, v, EuR.refl u v, h0, hu, hu2.mono (by omega), hv2.mono (by omega), dn u v u4 h0⟩
    · have k1 : Bd 700 (u.1.fdiv v.1) := hu.le (fd_le h0)
      have hx := euS_x u v
      have y1 := bd_euS k1 hu2 hv2
      have r1 := euS_rel (u.1.fdiv v.1) u v
      have s1 := fun o => st u v B u4 o h0 hu bv hv2 (by omega)
      have hx2 := fm_lt (a := u.1) h0
      have hw : Bd 700 (euS (u.1.fdiv v.1) u v).1 := by rw [hx]; exact bv.le (by omega)
      by_cases h1 : u.1.fmod v.1 = 0
      · exact ⟨v, _, r1, by rw [hx]; exact h1, bv, hv2.mono (by omega), y1.mono (by omega), s1 _ (dn _ _ _ (by rw [hx]; exact h1))⟩
      · have h1' : (euS (u.1.fdiv v.1) u v).1 ≠ 0 := by rw [hx]; exact h1
        have h2 := fm_two h0 h1
        rw [← hx] at h2
        generalize hw2 : euS (u.1.fdiv v.1) u v = w at *
        have k2 : Bd 700 (v.1.fdiv w.1) := bv.le (fd_le h1')
        have hxx := euS_x v w
        have y2 := bd_euS (B := B + 702) k2 (hv2.mono (by omega)) y1
        have r2 := euS_rel (v.1.fdiv w.1) v w
        obtain ⟨u', v', R, z, q1, q2, q3, e⟩ := ih w (euS (v.1.fdiv w.1) v w) (B + 1404) (.sh (.int (v.1.fdiv w.1))) (by rw [hxx]; rw [Nat.pow_succ] at hv; omega) (by omega) hw (y1.mono (by omega)) (y2.mono (by omega)) (by omega)
        exact ⟨u', v', (r1.trans r2).trans R, z, q1, q2.mono (by omega), q3.mono (by omega), s1 _ (st v w (B + 702) _ _ h1' bv hw y1 (by omega) e)⟩


/-! ## the base of steps -/
structure Bas (L : List Pt) (a b d : Int) : Prop where
  all : ∀ s ∈ L, spn (a, b) (0, d) s
  i1 : InL L (a, b)
  i2 : InL L (0, d)
theorem bas_nil : Bas [] 0 0 0 where
  all := fun s h => nomatch h
  i1 := (inL_sub _).z
  i2 := (inL_sub _).z
theorem spn_0 {u : Pt} {d e : Int} (h : d ∣ e) : spn u (0, d) (0, e) := by
  obtain ⟨k, rfl⟩ := h
  exact ⟨0, k, by simp, by simp; grind⟩
theorem bas_step {L : List Pt} {a b d : Int} {t u v : Pt} (H : Bas L a b d) (R : EuR (a, b) t u v) (hz : v.1 = 0) : Bas (L ++ [t]) u.1 u.2 (Int.gcd d v.2 : Int) := by
  have ev : v = (0, v.2) := Prod.ext hz rfl
  have hv : spn u (0, (Int.gcd d v.2 : Int)) v := by rw [ev]; exact spn_0 (Int.gcd_dvd_right ..)
  have hd : spn u (0, (Int.gcd d v.2 : Int)) (0, d) := spn_0 (Int.gcd_dvd_left ..)
  have ha : spn u (0, (Int.gcd d v.2 : Int)) (a, b) := spn_trans (spn_l _ _) hv R.b1
  have ht : spn u (0, (Int.gcd d v.2 : Int)) t := spn_trans (spn_l _ _) hv R.b2
  have m1 : ∀ {w : Pt}, InL L w → InL (L ++ [t]) w := fun h => inL_mono (fun s hs => List.mem_append_left _ hs) h
  have mt : InL (L ++ [t]) t := inL_mem (by simp)
  refine ⟨fun s hs => ?_, (inL_sub _).spn (m1 H.i1) mt R.f1, (inL_sub _).gcd (m1 H.i2) ?_⟩
  · rcases List.mem_append.mp hs with h | h
    · exact spn_trans ha hd (H.all s h)
    · rw [List.mem_singleton.mp h]; exact ht
  · have := (inL_sub (L ++ [t])).spn (m1 H.i1) mt R.f2
    rwa [ev] at this
theorem bas_neg {L : List Pt} {a b d : Int} (H : Bas L a b d) : Bas L (-a) (-b) d where
  all := fun s h => by
    obtain ⟨m, n, e1, e2⟩ := H.all s h
    exact ⟨-m, n, by rw [e1]; simp only; grind, by rw [e2]; simp only; grind⟩
  i1 := (inL_sub L).neg H.i1
  i2 := H.i2
theorem bas_mod {L : List Pt} {a b d : Int} (H : Bas L a b d) : Bas L a (b % d) d := by
  have e := Int.emod_def b d
  refine ⟨fun s h => ?_, ?_, H.i2⟩
  · obtain ⟨m, n, e1, e2⟩ := H.all s h
    refine ⟨m, n + m * (b / d), by rw [e1]; simp, ?_⟩
    rw [e2, e]
    simp only
    grind
  · refine (inL_sub L).spn H.i1 H.i2 ⟨1, -(b / d), by simp, ?_⟩
    rw [e]
    simp only
    grind
theorem gcd_bd {d e : Int} {B : Nat} (h : Bd B d) (k : Bd B e) : Bd B (Int.gcd d e : Int) := by
  unfold Bd at *
  rw [Int.natAbs_natCast]
  by_cases h0 : e = 0
  · subst h0
    rw [Int.gcd_zero_right]; exact h
  · have h2 : Int.gcd d e ≤ e.natAbs := Nat.le_of_dvd (by omega) (Nat.gcd_dvd_right _ _)
    omega
theorem v_added {n B : Nat} {a b d : Int} {t : Pt} (ha : Bd 700 a) (hb : Bd B b) (hn : n ≤ 700) (ht : Bd n t.1) (ht2 : Bd B t.2) (hB : B + n * 1500 ≤ 9000000) : ∃ u v : Pt, EuR (a, b) t u v ∧ v.1 = 0 ∧ Bd 700 u.1 ∧ Bd (B + n * 1500) u.2 ∧ Bd (B + n * 1500) v.2 ∧
    m_added [.sh (bsD a b d), .sh (ptD t)] = some (.sh (bsD u.1 u.2 (Int.gcd d v.2 : Int)), []) := by
  obtain ⟨u, v, R, hz, q1, q2, q3, e⟩ := w_added (u0 := .sh (bsD a b d)) (u1 := .sh (ptD t)) n (a, b) t B .dead ht hn ha hb ht2 hB
  refine ⟨u, v, R, hz, q1, q2, q3, ?_⟩
  have i0 : dIx (bsD a b d) (.int 0) = some (ptD (a, b)) := rfl
  have i1 : dIx (bsD a b d) (.int 1) = some (.tuple [.int 0, .int d]) := rfl
  have i2 : dIx (ptD v) (.int 1) = some (.int v.2) := rfl
  have eg := v_divisor (x := d) (y := v.2)
  have z2 : 2 ≤ sizeLine := by decide
  have eb : bsD u.1 u.2 (Int.gcd d v.2 : Int) = .tuple [ptD u, .tuple [.int 0, .int (Int.gcd d v.2 : Int)]] := rfl
  rw [eb]
  clear R hz q1 q2 q3 eb
  generalize (Int.gcd d v.2 : Int) = g at *
  generalize bsD a b d = BB at *
  generalize ptD (a, b) = U0 at *
  generalize ptD u = U at *
  generalize ptD v = V at *
  generalize ptD t = T at *
  exact fn_ret (by
    show s_added [.sh (BB), .sh (T), .dead, .dead, .dead] = _
    unfold s_added
    refine (seq_nx (ρ1 := [.sh (BB), .sh (T), .sh (U0), .sh (T), .dead]) (by simp [i0])).trans ?_
    refine (seq_nx e).trans ?_
    simp [i1, i2, eg, z2]
    rfl)
theorem w_base {n : Nat} (hn : n ≤ 700) {xs0 : List D} {u0 : Cell} : ∀ (M L : List Pt) (a b d : Int) (B : Nat) (u2 : Cell), (∀ t ∈ M, Bd n t.1 ∧ Bd 700 t.2) → Bas L a b d → 0 ≤ d → Bd 700 a → Bd B b → 700 ≤ B → B + M.length * (n * 1500) ≤ 9000000 → ∃ a' b' d', Bas (L ++ M) a' b' d' ∧ 0 ≤ d' ∧ 
    loopF none xs0 [2] (fun x ρ => (gNm 2 x ρ).bind b_base_of_1) (M.map ptD) [u0, .sh (bsD a b d), u2, .dead, .dead, .dead, .dead] = some (.nx [u0, .sh (bsD a' b' d'), .dead, .dead, .dead, .dead, .dead]) := by
  intro M
  induction M with
  | nil => intro L a b d B u2 _ H h0 _ _ _ _; exact ⟨a, b, d, by rw [List.append_nil]; exact H, h0, loop_nil rfl⟩
  | cons t M ih =>
    intro L a b d B u2 hM H h0 ha hb h7 hB
    rw [List.length_cons, Nat.succ_mul] at hB
    obtain ⟨t1, t2⟩ := hM t List.mem_cons_self
    obtain ⟨u, v, R, hz, q1, q2, q3, e⟩ := v_added (d := d) ha hb hn t1 (t2.mono h7) (by omega)
    obtain ⟨a', b', d', H', h0', e'⟩ := ih (L ++ [t]) u.1 u.2 (Int.gcd d v.2 : Int) (B + n * 1500) (.sh (ptD t)) (fun s hs => hM s (List.mem_cons_of_mem _ hs)) (bas_step H R hz) (by omega) q1 q2 (by omega) (by omega)
    refine ⟨a', b', d', by rw [List.append_assoc] at H'; exact H', h0', (loop_cons rfl ?_).trans e'⟩
    rw [bind_gnm]
    show b_base_of_1 [u0, .sh (bsD a b d), .sh (ptD t), .dead, .dead, .dead, .dead] = _
    generalize bsD a b d = X at *
    generalize bsD u.1 u.2 (Int.gcd d v.2 : Int) = Y at *
    generalize ptD t = T at *
    simp [b_base_of_1, e]
theorem v_base {n : Nat} {L : List Pt} (hn : n ≤ 700) (hL : ∀ t ∈ L, Bd n t.1 ∧ Bd 700 t.2) (hB : 700 + L.length * (n * 1500) ≤ 9000000) : 
    ((∃ a b d, Bas L a b d ∧ a * d = 0) ∧ m_base_of [.sh (.tuple (L.map ptD))] = some (.sh .none, [])) ∨
    ∃ a b d, Bas L a b d ∧ 1 ≤ a ∧ 0 ≤ b ∧ b < d ∧ m_base_of [.sh (.tuple (L.map ptD))] = some (.sh (bsD a b d), []) := by
  obtain ⟨a, b, d, H, h0, e⟩ := w_base hn (xs0 := L.map ptD) (u0 := .sh (.tuple (L.map ptD))) L [] 0 0 0 700 .dead hL bas_nil (by decide) (by unfold Bd; decide +kernel) (by unfold Bd; decide +kernel) (by decide) hB
  rw [List.nil_append] at H
  have el : l_base_of_1 [.sh (.tuple ((L.map ptD))), .sh (bsD 0 0 0), .dead, .dead, .dead, .dead, .dead] = some (.nx [.sh (.tuple ((L.map ptD))), .sh (bsD a b d), .dead, .dead, .dead, .dead, .dead]) := for_hx ll_base_of_1 rfl e
  have z2 : 2 ≤ sizeLine := by decide
  have pre : ∀ o, (sSeq (sIf (eOr (eTst (eBin (fun x y => (bEq x y).map .bool) (eVar 3) (eC (.int 0)))) (eTst (eBin (fun x y => (bEq x y).map .bool) (eVar 6) (eC (.int 0))))) (sRet (eC .none)) (sNx))
  (sSeq (sIf (eTst (eBin (fun x y => (bLt x y).map .bool) (eVar 3) (eC (.int 0)))) (sPar 3 4 (aCons (eUn dNeg (eVar 3)) (aCons (eUn dNeg (eVar 4)) (aNil)))) (sNx))
  (sRet (eTup (aCons (eTup (aCons (eVar 3) (aCons (eBin dMod (eVar 4) (eVar 6)) (aNil)))) (aCons (eTup (aCons (eC (.int 0)) (aCons (eVar 6) (aNil)))) (aNil))))))) [.sh (.tuple ((L.map ptD))), .sh (bsD a b d), .dead, .sh (.int (a)), .sh (.int (b)), .sh (.int (0)), .sh (.int (d))] = o → s_base_of [.sh (.tuple ((L.map ptD))), .dead, .dead, .dead, .dead, .dead, .dead] = o := fun o h => by
    unfold s_base_of
    refine (seq_nx (ρ1 := [.sh (.tuple ((L.map ptD))), .sh (bsD 0 0 0), .dead, .dead, .dead, .dead, .dead]) ?_).trans ?_
    · generalize L.map ptD = Q
      simp [z2, bsD]
    refine (seq_nx el).trans ?_
    refine (seq_nx (ρ1 := [.sh (.tuple ((L.map ptD))), .sh (bsD a b d), .dead, .sh (.int (a)), .sh (.int (b)), .sh (.int (0)), .sh (.int (d))]) ?_).trans h
    generalize L.map ptD = Q
    unfold bsD
    simp
  by_cases c1 : a = 0
  · left
    refine ⟨⟨a, b, d, H, by rw [c1]; simp⟩, fn_ret (ρ' := [.sh (.tuple ((L.map ptD))), .sh (bsD a b d), .dead, .sh (.int (a)), .sh (.int (b)), .sh (.int (0)), .sh (.int (d))]) (pre _ ?_)⟩
    generalize bsD a b d = X
    generalize L.map ptD = Q
    simp [c1]
  by_cases c2 : d = 0
  · left
    refine ⟨⟨a, b, d, H, by rw [c2]; simp⟩, fn_ret (ρ' := [.sh (.tuple ((L.map ptD))), .sh (bsD a b d), .dead, .sh (.int (a)), .sh (.int (b)), .sh (.int (0)), .sh (.int (d))]) (pre _ ?_)⟩
    generalize bsD a b d = X
    generalize L.map ptD = Q
    simp [c1, c2]
  right
  have hd : 0 < d := by omega
  have fm : ∀ z : Int, z.fmod d = z % d := fun z => Int.fmod_eq_emod_of_nonneg _ (by omega)
  by_cases c3 : a < 0
  · refine ⟨-a, (-b) % d, d, bas_mod (bas_neg H), by omega, Int.emod_nonneg _ (by omega), Int.emod_lt_of_pos _ hd, fn_ret (ρ' := [.sh (.tuple ((L.map ptD))), .sh (bsD a b d), .dead, .sh (.int (-a)), .sh (.int (-b)), .sh (.int (0)), .sh (.int (d))]) (pre _ ?_)⟩
    have e1 : bsD (-a) ((-b) % d) d = .tuple [.tuple [.int (-a), .int ((-b) % d)], .tuple [.int 0, .int d]] := rfl
    rw [e1]
    generalize bsD a b d = X
    generalize L.map ptD = Q
    simp [c1, c2, c3, fm, z2]
  · refine ⟨a, b % d, d, bas_mod H, by omega, Int.emod_nonneg _ (by omega), Int.emod_lt_of_pos _ hd, fn_ret (ρ' := [.sh (.tuple ((L.map ptD))), .sh (bsD a b d), .dead, .sh (.int (a)), .sh (.int (b)), .sh (.int (0)), .sh (.int (d))]) (pre _ ?_)⟩
    have e1 : bsD a (b % d) d = .tuple [.tuple [.int a, .int (b % d)], .tuple [.int 0, .int d]] := rfl
    rw [e1]
    generalize bsD a b d = X
    generalize L.map ptD = Q
    simp [c1, c2, c3, fm, z2]


/-! ## the index -/
def gF (g : Int) (xs : List Int) : Int := xs.foldl (fun g x => (Int.gcd x g : Int)) g
theorem dvd_gcdI {h a b : Int} : h ∣ (Int.gcd a b : Int) ↔ h ∣ a ∧ h ∣ b :=
  ⟨fun k => ⟨Int.dvd_trans k (Int.gcd_dvd_left ..), Int.dvd_trans k (Int.gcd_dvd_right ..)⟩, fun k => Int.dvd_coe_gcd k.1 k.2⟩
theorem dvd_gF {h : Int} : ∀ {xs : List Int} {g : Int}, h ∣ gF g xs ↔ h ∣ g ∧ ∀ x ∈ xs, h ∣ x
  | [], g => by unfold gF; simp
  | x :: xs, g => by
    have e : gF g (x :: xs) = gF (Int.gcd x g : Int) xs := rfl
    rw [e, dvd_gF, dvd_gcdI]
    constructor
    · rintro ⟨⟨h1, h2⟩, h3⟩
      refine ⟨h2, fun y hy => ?_⟩
      rcases List.mem_cons.mp hy with e | hy
      · rw [e]; exact h1
      · exact h3 y hy
    · rintro ⟨h2, h3⟩
      exact ⟨⟨h3 x List.mem_cons_self, h2⟩, fun y hy => h3 y (List.mem_cons_of_mem _ hy)⟩
theorem gF_nn : ∀ {xs : List Int} {g : Int}, 0 ≤ g → 0 ≤ gF g xs
  | [], g, h => h
  | x :: xs, g, _ => by
    have e : gF g (x :: xs) = gF (Int.gcd x g : Int) xs := rfl
    rw [e]; exact gF_nn (by omega)
theorem gF_bd {B : Nat} : ∀ {xs : List Int} {g : Int}, Bd B g → (∀ x ∈ xs, Bd B x) → Bd B (gF g xs)
  | [], g, h, _ => h
  | x :: xs, g, h, k => by
    have e : gF g (x :: xs) = gF (Int.gcd x g : Int) xs := rfl
    rw [e]; exact gF_bd (gcd_bd (k x List.mem_cons_self) h) fun y hy => k y (List.mem_cons_of_mem _ hy)
theorem gF_app (g : Int) (xs ys : List Int) : gF g (xs ++ ys) = gF (gF g xs) ys := List.foldl_append
def ptG (L : List Pt) (k : Nat) : Pt := L.getD k (0, 0)
def rowD (L : List Pt) (k : Nat) : List Int := (List.range k).map fun j => det2 (ptG L k) (ptG L j)
def allD (L : List Pt) (n : Nat) : List Int := (List.range n).flatMap (rowD L)
theorem ix_pt {L : List Pt} {k : Nat} (h : k < L.length) : dIx (.tuple (L.map ptD)) (.int (k : Int)) = some (ptD (ptG L k)) := by
  show atI (L.map ptD) (k : Int) = _
  rw [atI_map, atI_lt h]
  unfold ptG
  rw [List.getD_eq_getElem?_getD, List.getElem?_eq_getElem h]
  rfl
theorem ptG_mem {L : List Pt} {k : Nat} (h : k < L.length) : ptG L k ∈ L := by
  unfold ptG
  rw [List.getD_eq_getElem?_getD, List.getElem?_eq_getElem h]
  exact List.getElem_mem _
def nI (k : Nat) : D := .int (k : Int)
theorem w_row {L : List Pt} {xs0 : List D} {k : Nat} (hk : k < L.length) (hL : ∀ t ∈ L, Bd 700 t.1 ∧ Bd 700 t.2) : ∀ (js : List Nat) (g : Int) (u3 : Cell), (∀ j ∈ js, j < L.length) → (∀ j ∈ js, Bd 398 (det2 (ptG L k) (ptG L j))) → Bd 398 g →
    loopF none xs0 [3] (fun x ρ => (gNm 3 x ρ).bind b__law_index_1) (js.map nI) [.sh (.tuple ((L.map ptD))), .sh (.int (g)), .sh (.int ((k : Int))), u3] = some (.nx [.sh (.tuple ((L.map ptD))), .sh (.int ((gF g (js.map fun j => det2 (ptG L k) (ptG L j))))), .sh (.int ((k : Int))), .dead]) := by
  intro js
  induction js with
  | nil => intro g u3 _ _ _; exact loop_nil rfl
  | cons j r ih =>
    intro g u3 h1 h2 hg
    have hj := h1 j List.mem_cons_self
    have hd := h2 j List.mem_cons_self
    have bg := gcd_bd hd hg
    have e := ih (Int.gcd (det2 (ptG L k) (ptG L j)) g : Int) (.sh (nI j)) (fun z hz => h1 z (List.mem_cons_of_mem _ hz)) (fun z hz => h2 z (List.mem_cons_of_mem _ hz)) bg
    rw [List.map_cons, List.map_cons]
    refine (loop_cons rfl ?_).trans e
    rw [bind_gnm]
    show b__law_index_1 [.sh (.tuple ((L.map ptD))), .sh (.int (g)), .sh (.int ((k : Int))), .sh (.int ((j : Int)))] = _
    have i1 := ix_pt hk
    have i2 := ix_pt hj
    obtain ⟨a1, a2⟩ := hL _ (ptG_mem hk)
    obtain ⟨b1, b2⟩ := hL _ (ptG_mem hj)
    have ev := v_ldivisor (x := det2 (ptG L k) (ptG L j)) (y := g) (Nat.lt_trans hg (by decide +kernel))
    unfold det2 at ev
    have ed : det2 (ptG L k) (ptG L j) = (ptG L k).1 * (ptG L j).2 - (ptG L k).2 * (ptG L j).1 := rfl
    rw [ed]
    have m1 : mulOk (ptG L k).1 (ptG L j).2 = true := a1.mulOk b2 (by decide)
    have m2 : mulOk (ptG L k).2 (ptG L j).1 = true := a2.mulOk b1 (by decide)
    have j1 : dIx (ptD (ptG L k)) (.int 0) = some (.int (ptG L k).1) := rfl
    have j2 : dIx (ptD (ptG L k)) (.int 1) = some (.int (ptG L k).2) := rfl
    have j3 : dIx (ptD (ptG L j)) (.int 0) = some (.int (ptG L j).1) := rfl
    have j4 : dIx (ptD (ptG L j)) (.int 1) = some (.int (ptG L j).2) := rfl
    clear e ih h1 h2 hd bg ed
    generalize (ptG L k).1 = x1 at *
    generalize (ptG L k).2 = y1 at *
    generalize (ptG L j).1 = x2 at *
    generalize (ptG L j).2 = y2 at *
    generalize ptD (ptG L k) = P1 at *
    generalize ptD (ptG L j) = P2 at *
    have i1 : atI (L.map ptD) (k : Int) = some P1 := i1
    have i2 : atI (L.map ptD) (j : Int) = some P2 := i2
    generalize L.map ptD = Q at *
    simp [b__law_index_1, i1, i2, j1, j2, j3, j4, m1, m2, ev]
    rfl
theorem w_index {L : List Pt} {xs0 : List D} (hl : L.length ≤ 1000) (hL : ∀ t ∈ L, Bd 700 t.1 ∧ Bd 700 t.2) (hD : ∀ s ∈ L, ∀ t ∈ L, Bd 398 (det2 s t)) : ∀ (n : Nat) (k : Nat) (u2 : Cell), k + n = L.length → 
    loopF none xs0 [2, 3] (fun x ρ => (gNm 2 x ρ).bind b__law_index_2) ((List.range' k n).map nI) [.sh (.tuple ((L.map ptD))), .sh (.int ((gF 0 (allD L k)))), u2, .dead] = some (.nx [.sh (.tuple ((L.map ptD))), .sh (.int ((gF 0 (allD L L.length)))), .dead, .dead]) := by
  intro n
  induction n with
  | zero => intro k u2 h; rw [Nat.add_zero] at h; rw [h]; exact loop_nil rfl
  | succ n ih =>
    intro k u2 h
    have e := ih (k + 1) (.sh (nI k)) (by omega)
    have ea : gF 0 (allD L (k + 1)) = gF (gF 0 (allD L k)) (rowD L k) := by
      unfold allD
      rw [List.range_succ, List.flatMap_append, gF_app]
      simp
    have ball : Bd 398 (gF 0 (allD L k)) := by
      refine gF_bd (by unfold Bd; decide +kernel) fun x hx => ?_
      unfold allD rowD at hx
      rw [List.mem_flatMap] at hx
      obtain ⟨i, hi, hx⟩ := hx
      obtain ⟨j, hj, rfl⟩ := List.mem_map.mp hx
      have := List.mem_range.mp hi
      have := List.mem_range.mp hj
      exact hD _ (ptG_mem (by omega)) _ (ptG_mem (by omega))
    have w := w_row (L := L) (xs0 := (List.range k).map nI) (k := k) (by omega) hL (List.range k) (gF 0 (allD L k)) .dead (fun j hj => by have := List.mem_range.mp hj; omega) (fun j hj => by
      have := List.mem_range.mp hj
      exact hD _ (ptG_mem (by omega)) _ (ptG_mem (by omega))) ball
    rw [show (List.range k).map (fun j => det2 (ptG L k) (ptG L j)) = rowD L k from rfl, ← ea] at w
    rw [List.range'_succ, List.map_cons]
    refine (loop_cons rfl ?_).trans e
    rw [bind_gnm]
    show l__law_index_1 [.sh (.tuple ((L.map ptD))), .sh (.int ((gF 0 (allD L k)))), .sh (.int ((k : Int))), .dead] = _
    refine for_hx ll__law_index_1 ?_ w
    refine (ev_r1 (n := (k : Int)) (ρ1 := [.sh (.tuple ((L.map ptD))), .sh (.int ((gF 0 (allD L k)))), .sh (.int ((k : Int))), .dead]) ?_ (by omega) (by omega)).trans ?_
    · generalize L.map ptD = Q
      generalize gF 0 (allD L k) = G
      simp
    · rw [Int.toNat_natCast]; rfl
def idx (L : List Pt) : Int := gF 0 (allD L L.length)
theorem v_index {L : List Pt} (hl : L.length ≤ 1000) (hL : ∀ t ∈ L, Bd 700 t.1 ∧ Bd 700 t.2) (hD : ∀ s ∈ L, ∀ t ∈ L, Bd 398 (det2 s t)) : m__law_index [.sh (.tuple (L.map ptD))] = some (.sh (.int (idx L)), []) := by
  have w := w_index (xs0 := (List.range L.length).map nI) hl hL hD L.length 0 .dead (by omega)
  rw [← List.range_eq_range'] at w
  have el : l__law_index_2 [.sh (.tuple ((L.map ptD))), .sh (.int (0)), .dead, .dead] = some (.nx [.sh (.tuple ((L.map ptD))), .sh (.int ((idx L))), .dead, .dead]) := by
    refine for_hx ll__law_index_2 ?_ w
    have hlen : ((L.map ptD).length : Int) = (L.length : Int) := by rw [List.length_map]
    refine (ev_r1 (n := (L.length : Int)) (ρ1 := [.sh (.tuple ((L.map ptD))), .sh (.int (0)), .dead, .dead]) ?_ (by omega) (by omega)).trans ?_
    · rw [← hlen]
      generalize L.map ptD = Q
      simp
    · rw [Int.toNat_natCast]; rfl
  exact fn_ret (by
    show s__law_index [.sh (.tuple ((L.map ptD))), .dead, .dead, .dead] = _
    refine (seq_nx (ρ1 := [.sh (.tuple ((L.map ptD))), .sh (.int (0)), .dead, .dead]) rfl).trans ?_
    exact (seq_nx el).trans rfl)
theorem det_self (u : Pt) : det2 u u = 0 := by unfold det2; grind
theorem det_swap (u v : Pt) : det2 u v = -det2 v u := by unfold det2; grind
theorem dvd_idx {L : List Pt} {h : Int} : h ∣ idx L ↔ ∀ s ∈ L, ∀ t ∈ L, h ∣ det2 s t := by
  unfold idx
  rw [dvd_gF]
  constructor
  · rintro ⟨_, k⟩ s hs t ht
    have key : ∀ i j : Nat, j < i → i < L.length → h ∣ det2 (ptG L i) (ptG L j) := fun i j h1 h2 => by
      refine k _ ?_
      unfold allD
      rw [List.mem_flatMap]
      exact ⟨i, List.mem_range.mpr h2, List.mem_map.mpr ⟨j, List.mem_range.mpr h1, rfl⟩⟩
    obtain ⟨i, hi, ei⟩ := List.getElem_of_mem hs
    obtain ⟨j, hj, ej⟩ := List.getElem_of_mem ht
    have gi : ptG L i = s := by unfold ptG; rw [List.getD_eq_getElem?_getD, List.getElem?_eq_getElem hi, ei]; rfl
    have gj : ptG L j = t := by unfold ptG; rw [List.getD_eq_getElem?_getD, List.getElem?_eq_getElem hj, ej]; rfl
    rw [← gi, ← gj]
    rcases Nat.lt_trichotomy i j with c | c | c
    · rw [det_swap]; exact Int.dvd_neg.mpr (key j i c hj)
    · rw [c, det_self]; exact Int.dvd_zero _
    · exact key i j c hi
  · intro k
    refine ⟨Int.dvd_zero _, fun x hx => ?_⟩
    unfold allD rowD at hx
    rw [List.mem_flatMap] at hx
    obtain ⟨i, hi, hx⟩ := hx
    obtain ⟨j, hj, rfl⟩ := List.mem_map.mp hx
    have := List.mem_range.mp hi
    have := List.mem_range.mp hj
    exact k _ (ptG_mem (by omega)) _ (ptG_mem (by omega))
theorem idx_nn (L : List Pt) : 0 ≤ idx L := gF_nn (by decide)
theorem det_sub (g : Int) (v : Pt) : Sub fun w => g ∣ det2 w v where
  z := by unfold det2; simp
  s := fun u w hu hw => by
    have e : det2 (u.1 - w.1, u.2 - w.2) v = det2 u v - det2 w v := by unfold det2; simp only; grind
    simp only [e]
    exact Int.dvd_sub hu hw
theorem det_subR (g : Int) (v : Pt) : Sub fun w => g ∣ det2 v w where
  z := by unfold det2; simp
  s := fun u w hu hw => by
    have e : det2 v (u.1 - w.1, u.2 - w.2) = det2 v u - det2 v w := by unfold det2; simp only; grind
    simp only [e]
    exact Int.dvd_sub hu hw
/-- the index is the product of the base -/
theorem bas_idx {L : List Pt} {a b d : Int} (H : Bas L a b d) : idx L = ((a * d).natAbs : Int) := by
  have h1 : idx L ∣ a * d := by
    have hi := dvd_idx.mp (Int.dvd_refl (idx L))
    have q : ∀ t ∈ L, idx L ∣ det2 (a, b) t := fun t ht => H.i1 _ (det_sub _ t) fun s hs => hi s hs t ht
    have q2 := H.i2 _ (det_subR (idx L) (a, b)) q
    unfold det2 at q2
    simpa using q2
  have h2 : a * d ∣ idx L := by
    rw [dvd_idx]
    intro s hs t ht
    obtain ⟨m, n, e1, e2⟩ := H.all s hs
    obtain ⟨m', n', e3, e4⟩ := H.all t ht
    refine ⟨m * n' - n * m', ?_⟩
    unfold det2
    rw [e1, e2, e3, e4]
    simp only
    grind
  have e := Nat.dvd_antisymm (Int.natAbs_dvd_natAbs.mpr h1) (Int.natAbs_dvd_natAbs.mpr h2)
  have := idx_nn L
  omega
theorem idx_bd {L : List Pt} {B : Nat} (h : ∀ s ∈ L, ∀ t ∈ L, Bd B (det2 s t)) (hB : 0 < B) : Bd B (idx L) := by
  refine gF_bd (by unfold Bd; exact Nat.pow_pos (by decide)) fun x hx => ?_
  unfold allD rowD at hx
  rw [List.mem_flatMap] at hx
  obtain ⟨i, hi, hx⟩ := hx
  obtain ⟨j, hj, rfl⟩ := List.mem_map.mp hx
  have := List.mem_range.mp hi
  have := List.mem_range.mp hj
  exact h _ (ptG_mem (by omega)) _ (ptG_mem (by omega))


theorem qle {a x : Int} {B : Nat} (ha : 1 ≤ a) (bx : Bd B x) : Bd B (x / a) := by
  have h := fd_le (a := x) (b := a) (by omega)
  rw [Int.fdiv_eq_ediv_of_nonneg _ (by omega)] at h
  exact bx.le h
theorem v_lhas {a b d x y : Int} (ha : 1 ≤ a) (hd : 1 ≤ d) (ba : Bd 2000 a) (bb : Bd 2000 b) (bd : Bd 2000 d) (bx : Bd 4000 x) : m__law_has [.sh (bsD a b d), .sh (ptD (x, y))] = some (.sh (.bool (hasB a b d x y)), []) := by
  have p1 : Builtin.divisionGoesByPylong x a = false := noPy ba (by decide)
  have hm : mulOk (x / a) b = true := (qle ha bx).mulOk bb (by decide)
  have n1 : a ≠ 0 := by omega
  have n2 : d ≠ 0 := by omega
  have f1 := fm_pos (x := x) ha
  have f2 := fd_pos (x := x) ha
  have f3 := fm_pos (x := y - x / a * b) hd
  have i0 : dIx (bsD a b d) (.int 0) = some (.tuple [.int a, .int b]) := rfl
  have i1 : dIx (bsD a b d) (.int 1) = some (.tuple [.int 0, .int d]) := rfl
  unfold ptD hasB
  generalize bsD a b d = X at *
  exact fn_ret (by
    show s__law_has [.sh (X), .sh (.tuple ([.int x, .int y])), .dead] = _
    unfold s__law_has
    refine (seq_nx (ρ1 := [.sh (X), .sh (.tuple ([.int x, .int y])), .sh (.int (a))]) (by simp [i0])).trans ?_
    by_cases h : x % a = 0
    · by_cases h5 : (y - x / a * b) % d = 0
      · simp [p1, hm, n1, n2, f1, f2, f3, h, h5, i0, i1]
        rfl
      · simp [p1, hm, n1, n2, f1, f2, f3, h, h5, i0, i1]
    · simp [n1, f1, h])
theorem has_iff {a b d x y : Int} (ha : 1 ≤ a) (hd : 1 ≤ d) : hasB a b d x y = true ↔ spn (a, b) (0, d) (x, y) := by
  unfold hasB
  rw [Bool.and_eq_true, decide_eq_true_eq, decide_eq_true_eq]
  constructor
  · rintro ⟨h1, h2⟩
    have e1 := Int.mul_ediv_add_emod x a
    have e2 := Int.mul_ediv_add_emod (y - x / a * b) d
    rw [h1] at e1
    rw [h2] at e2
    refine ⟨x / a, (y - x / a * b) / d, ?_, ?_⟩
    · simp only; grind
    · simp only; grind
  · rintro ⟨m, n, e1, e2⟩
    simp only at e1 e2
    have hx : x = m * a := by rw [e1]; simp
    have hq : x / a = m := by rw [hx]; exact Int.mul_ediv_cancel _ (by omega)
    refine ⟨by rw [hx]; exact Int.mul_emod_left .., ?_⟩
    rw [hq, e2, show m * b + n * d - m * b = n * d by grind]
    exact Int.mul_emod_left ..
theorem v_is_base {a b d : Int} (ha : 1 ≤ a) (hb : 0 ≤ b) (hd : b < d) : m__law_is_base [.sh (bsD a b d)] = some (.sh (.bool true), []) := by
  have inner : ∀ (u0 : Cell) (x y : Int) (u2 : Cell), l__law_is_base_1 [u0, .sh (.tuple ([.int x, .int y])), u2] = some (.nx [u0, .sh (.tuple ([.int x, .int y])), .dead]) := fun u0 x y u2 => by
    have st : ∀ z u, b__law_is_base_1 [u0, u, .sh (.int (z))] = some (.nx [u0, u, .sh (.int (z))]) := fun z u => by simp [b__law_is_base_1]
    refine for_hx ll__law_is_base_1 (xs := [.int x, .int y]) rfl ?_
    exact (loop_cons rfl (st x _)).trans ((loop_cons rfl (st y _)).trans ((loop_nil rfl).trans rfl))
  have step : ∀ (u0 : Cell) (x y : Int), b__law_is_base_2 [u0, .sh (.tuple ([.int x, .int y])), .dead] = some (.nx [u0, .sh (.tuple ([.int x, .int y])), .dead]) := fun u0 x y => by
    unfold b__law_is_base_2
    exact (seq_nx (if_f (ρ1 := [u0, .sh (.tuple ([.int x, .int y])), .dead]) (by simp))).trans (inner u0 x y .dead)
  have outer : l__law_is_base_2 [.sh (bsD a b d), .dead, .dead] = some (.nx [.sh (bsD a b d), .dead, .dead]) := by
    refine for_hx ll__law_is_base_2 (xs := [.tuple [.int a, .int b], .tuple [.int 0, .int d]]) rfl ?_
    exact (loop_cons rfl (step _ a b)).trans ((loop_cons rfl (step _ 0 d)).trans ((loop_nil rfl).trans rfl))
  exact fn_ret (by
    show s__law_is_base [.sh (bsD a b d), .dead, .dead] = _
    unfold s__law_is_base
    refine (seq_nx (if_f (ρ1 := [.sh (bsD a b d), .dead, .dead]) (by unfold bsD; simp))).trans ?_
    refine (seq_nx outer).trans ?_
    unfold bsD
    simp [ha, hb, hd]
    rfl)
theorem bas_bd {L : List Pt} {a b d : Int} {B : Nat} (H : Bas L a b d) (ha : 1 ≤ a) (hb : 0 ≤ b) (hd : b < d) (h : ∀ s ∈ L, ∀ t ∈ L, Bd B (det2 s t)) (hB : 0 < B) : Bd B a ∧ Bd B b ∧ Bd B d := by
  have e := bas_idx H
  have k := idx_bd h hB
  rw [e] at k
  have p1 : 1 * a ≤ d * a := Int.mul_le_mul_of_nonneg_right (by omega) (by omega)
  have p2 : 1 * d ≤ a * d := Int.mul_le_mul_of_nonneg_right (by omega) (by omega)
  rw [Int.mul_comm d a] at p1
  have q : (((a * d).natAbs : Int)).natAbs = (a * d).natAbs := by omega
  unfold Bd at *
  omega
theorem v_base_right0 {L : List Pt} (hl : L.length ≤ 1000) (hL : ∀ t ∈ L, Bd 700 t.1 ∧ Bd 700 t.2) (hD : ∀ s ∈ L, ∀ t ∈ L, Bd 398 (det2 s t)) {a b d : Int} (H : Bas L a b d) (h0 : a * d = 0) : m__law_base_right [.sh .none, .sh (.tuple (L.map ptD))] = some (.sh (.bool true), []) := by
  have e := v_index hl hL hD
  rw [bas_idx H, h0] at e
  have e : m__law_index [.sh (.tuple (L.map ptD))] = some (.sh (.int 0), []) := e
  generalize L.map ptD = Q at *
  exact fn_ret (by
    show s__law_base_right [.sh (.none), .sh (.tuple (Q)), .dead, .dead] = _
    simp [s__law_base_right, e]
    rfl)
theorem v_base_right {L : List Pt} (hl : L.length ≤ 1000) (hL : ∀ t ∈ L, Bd 700 t.1 ∧ Bd 700 t.2) (hD : ∀ s ∈ L, ∀ t ∈ L, Bd 398 (det2 s t)) {a b d : Int} (H : Bas L a b d) (ha : 1 ≤ a) (hb : 0 ≤ b) (hd : b < d) : m__law_base_right [.sh (bsD a b d), .sh (.tuple (L.map ptD))] = some (.sh (.bool true), []) := by
  have e := v_index hl hL hD
  rw [bas_idx H] at e
  obtain ⟨B1, B2, B3⟩ := bas_bd H ha hb hd hD (by decide)
  have hp : 0 < a * d := Int.mul_pos (by omega) (by omega)
  rw [Int.natAbs_of_nonneg (by omega)] at e
  have e2 := v_is_base ha hb hd
  have i0 : dIx (bsD a b d) (.int 0) = some (.tuple [.int a, .int b]) := rfl
  have i1 : dIx (bsD a b d) (.int 1) = some (.tuple [.int 0, .int d]) := rfl
  have m1 : mulOk a d = true := B1.mulOk B3 (by decide)
  have h0 : ¬ a * d = 0 := by omega
  have ek : k__law_base_right_1 [.sh (bsD a b d), .sh (.tuple ((L.map ptD))), .sh (.int ((a * d))), .dead] = some (.ol [], [.sh (bsD a b d), .sh (.tuple ((L.map ptD))), .sh (.int ((a * d))), .dead]) := by
    rw [kk__law_base_right_1]
    have hf : L.filter (fun _ => false) = [] := by simp
    refine (ev_comp ptD (fun _ => false) ptD L (ρi := [.sh (bsD a b d), .sh (.tuple ((L.map ptD))), .sh (.int ((a * d))), .dead]) rfl rfl (by unfold sizeLine; omega) ?_).trans (by rw [hf]; rfl)
    intro t ht
    have eh := v_lhas (a := a) (b := b) (d := d) (x := t.1) (y := t.2) ha (by omega) (B1.mono (by decide)) (B2.mono (by decide)) (B3.mono (by decide)) ((hL t ht).1.mono (by decide))
    rw [(has_iff ha (by omega)).mpr (H.all t ht)] at eh
    have eh : m__law_has [.sh (bsD a b d), .sh (ptD t)] = some (.sh (.bool true), []) := eh
    refine ⟨[.sh (bsD a b d), .sh (.tuple ((L.map ptD))), .sh (.int ((a * d))), .sh (ptD t)], [.sh (bsD a b d), .sh (.tuple ((L.map ptD))), .sh (.int ((a * d))), .sh (ptD t)], rfl, ?_, fun _ => rfl, fun z => nomatch z⟩
    generalize bsD a b d = X at *
    generalize L.map ptD = Q at *
    generalize ptD t = T at *
    simp [eh]
  generalize L.map ptD = Q at *
  generalize bsD a b d = X at *
  exact fn_ret (by
    show s__law_base_right [.sh (X), .sh (.tuple (Q)), .dead, .dead] = _
    unfold s__law_base_right
    refine (seq_nx (ρ1 := [.sh (X), .sh (.tuple (Q)), .sh (.int ((a * d))), .dead]) (by simp [e])).trans ?_
    refine (seq_nx (if_f (ρ1 := [.sh (X), .sh (.tuple (Q)), .sh (.int ((a * d))), .dead]) (by simp; omega))).trans ?_
    refine (seq_nx (if_f (ρ1 := [.sh (X), .sh (.tuple (Q)), .sh (.int ((a * d))), .dead]) (by simp [e2, i0, i1, m1]))).trans ?_
    simp [ek]
    rfl)
/-! ## a base's own base -/
theorem bas_uniq {a b d a' b' d' : Int} (ha : 1 ≤ a) (hb : 0 ≤ b) (hd : b < d) (ha' : 1 ≤ a') (hb' : 0 ≤ b') (hd' : b' < d') (H : Bas [(a, b), (0, d)] a' b' d') : a' = a ∧ b' = b ∧ d' = d := by
  obtain ⟨m, n, e1, e2⟩ := H.all (0, d) (by simp)
  obtain ⟨p, q, e3, e4⟩ := H.all (a, b) (by simp)
  simp only [Int.mul_zero, Int.add_zero] at e1 e2 e3 e4
  have hm : m = 0 := by
    rcases Int.mul_eq_zero.mp e1.symm with h | h
    · exact h
    · omega
  rw [hm, Int.zero_mul, Int.zero_add] at e2
  have hi := bas_idx H
  have hI : idx [(a, b), (0, d)] = a * d := by
    have B0 : Bas [(a, b), (0, d)] a b d := ⟨fun s hs => by
      rcases List.mem_cons.mp hs with rfl | hs
      · exact spn_l _ _
      · rw [List.mem_singleton.mp hs]; exact spn_r _ _, inL_mem (by simp), inL_mem (by simp)⟩
    have hp : 0 < a * d := Int.mul_pos (by omega) (by omega)
    rw [bas_idx B0]; omega
  have hp' : 0 < a' * d' := Int.mul_pos (by omega) (by omega)
  rw [hI, Int.natAbs_of_nonneg (by omega)] at hi
  -- a = p a', d = n d', a d = a' d'
  have pp : 1 ≤ p := by
    rcases (show 0 < p ∨ p ≤ 0 by omega) with h | h
    · omega
    · have : p * a' ≤ 0 := Int.mul_nonpos_of_nonpos_of_nonneg h (by omega)
      omega
  have np : 1 ≤ n := by
    rcases (show 0 < n ∨ n ≤ 0 by omega) with h | h
    · omega
    · have : n * d' ≤ 0 := Int.mul_nonpos_of_nonpos_of_nonneg h (by omega)
      omega
  have l1 : 1 * a' ≤ p * a' := Int.mul_le_mul_of_nonneg_right pp (by omega)
  have l2 : 1 * d' ≤ n * d' := Int.mul_le_mul_of_nonneg_right np (by omega)
  have ea : a' = a := by
    rcases Int.lt_or_eq_of_le (show a' ≤ a by omega) with h | h
    · have h1 : a' * d < a * d := Int.mul_lt_mul_of_pos_right h (by omega)
      have h2 : a' * d' ≤ a' * d := Int.mul_le_mul_of_nonneg_left (by omega) (by omega)
      omega
    · exact h
  have ed : d' = d := by
    rw [ea] at hi
    exact (Int.eq_of_mul_eq_mul_left (by omega) hi).symm
  refine ⟨ea, ?_, ed⟩
  have p1 : p = 1 := by
    rcases Int.lt_or_eq_of_le pp with h | h
    · have : 2 * a' ≤ p * a' := Int.mul_le_mul_of_nonneg_right (by omega) (by omega)
      omega
    · exact h.symm
  rw [p1, Int.one_mul, ed] at e4
  -- b = b' + q d
  have hq : q = 0 := by
    rcases Int.lt_trichotomy q 0 with h | h | h
    · have : q * d ≤ -1 * d := Int.mul_le_mul_of_nonneg_right (by omega) (by omega)
      omega
    · exact h
    · have : 1 * d ≤ q * d := Int.mul_le_mul_of_nonneg_right (by omega) (by omega)
      omega
  rw [hq] at e4
  omega
theorem v_base_own {a b d : Int} (ha : 1 ≤ a) (hb : 0 ≤ b) (hd : b < d) (B1 : Bd 500 a) (B2 : Bd 500 b) (B3 : Bd 500 d) : m_base_of [.sh (bsD a b d)] = some (.sh (bsD a b d), []) := by
  have z : Bd 500 0 := by unfold Bd; decide +kernel
  have hv := v_base (n := 500) (L := [(a, b), (0, d)]) (by decide) (fun t ht => by
    rcases List.mem_cons.mp ht with rfl | ht
    · exact ⟨B1, B2.mono (by decide)⟩
    · rw [List.mem_singleton.mp ht]; exact ⟨z, B3.mono (by decide)⟩) (by show 700 + 2 * (500 * 1500) ≤ 9000000; decide)
  rcases hv with ⟨⟨a', b', d', H, h0⟩, _⟩ | ⟨a', b', d', H, q1, q2, q3, e⟩
  · exfalso
    have B0 : Bas [(a, b), (0, d)] a b d := ⟨fun s hs => by
      rcases List.mem_cons.mp hs with rfl | hs
      · exact spn_l _ _
      · rw [List.mem_singleton.mp hs]; exact spn_r _ _, inL_mem (by simp), inL_mem (by simp)⟩
    have i1 := bas_idx H
    have i2 := bas_idx B0
    have hp : 0 < a * d := Int.mul_pos (by omega) (by omega)
    rw [h0] at i1
    omega
  · obtain ⟨rfl, rfl, rfl⟩ := bas_uniq ha hb hd q1 q2 q3 H
    exact e
theorem v_index_of {a b d : Int} (B1 : Bd 500 a) (B3 : Bd 500 d) : m_index_of [.sh (bsD a b d)] = some (.sh (.int (a * d)), []) := by
  have m1 : mulOk a d = true := B1.mulOk B3 (by decide)
  exact fn_ret (by
    show s_index_of [.sh (bsD a b d)] = _
    unfold bsD
    simp [s_index_of, m1]
    rfl)


/-! ## a comprehension over an own list -/
theorem comp_mapL {α : Type} (inj : α → D) (p : α → Bool) (F : α → D) {lk : Option Nat} {xs0 : List D} {vs : List Nat} {g : FG} {c : FT} {e : FE} {ρ0 : En} (hlk : lockOk lk xs0 ρ0 = true) : ∀ (ys : List α) (acc : List D) (ρ : En), killL vs ρ = ρ0 → acc.length + ys.length ≤ sizeLine →
    (∀ y ∈ ys, ∃ ρ1 ρ2, g (inj y) ρ0 = some ρ1 ∧ c ρ1 = some (p y, ρ2) ∧ (p y = false → killL vs ρ2 = ρ0) ∧ (p y = true → ∃ ρ3, e ρ2 = some (F y, ρ3) ∧ killL vs ρ3 = ρ0)) →
    compG lk xs0 vs g (stp c e) (ys.map inj) acc ρ = some (acc ++ (ys.filter p).map F, ρ0) := by
  intro ys
  induction ys with
  | nil =>
    intro acc ρ e0 _ _
    rw [List.map_nil]
    unfold compG
    rw [if_pos (by rw [e0]; exact hlk), e0]
    simp
  | cons y r ih =>
    intro acc ρ e0 hl h
    rw [List.length_cons] at hl
    obtain ⟨ρ1, ρ2, h1, h2, h3, h4⟩ := h y (List.mem_cons_self ..)
    have hr := fun z hz => h z (List.mem_cons_of_mem _ hz)
    rw [List.map_cons]
    unfold compG
    rw [if_pos (by rw [e0]; exact hlk), e0, h1]
    show (stp c e acc ρ1).bind _ = _
    unfold stp
    rw [h2]
    show ((if p y = true then _ else _) : Option (List D × En)).bind _ = _
    cases hp : p y with
    | false =>
      rw [if_neg Bool.false_ne_true]
      show compG lk xs0 vs g (stp c e) (r.map inj) acc ρ2 = _
      rw [ih acc ρ2 (h3 hp) (by omega) hr, List.filter_cons_of_neg (by rw [hp]; exact Bool.false_ne_true)]
    | true =>
      obtain ⟨ρ3, h5, h6⟩ := h4 hp
      rw [if_pos rfl, h5]
      show ((if acc.length < sizeLine then _ else _) : Option (List D × En)).bind _ = _
      rw [if_pos (by omega)]
      show compG lk xs0 vs g (stp c e) (r.map inj) (acc ++ [F y]) ρ3 = _
      rw [ih _ ρ3 h6 (by rw [List.length_append, List.length_singleton]; omega) hr, List.filter_cons_of_pos hp, List.map_cons, List.append_assoc]
      rfl
theorem ev_compL {α : Type} (inj : α → D) (p : α → Bool) (F : α → D) (ys : List α) {lk : Option Nat} {vs : List Nat} {it : FA} {g : FG} {c : FT} {e : FE} {ρ ρi ρ0 : En} (hi : it ρ = some (ys.map inj, ρi)) (h0 : killL vs ρi = ρ0) (hlk : lockOk lk (ys.map inj) ρ0 = true) (hl : ys.length ≤ sizeLine)
    (h : ∀ y ∈ ys, ∃ ρ1 ρ2, g (inj y) ρ0 = some ρ1 ∧ c ρ1 = some (p y, ρ2) ∧ (p y = false → killL vs ρ2 = ρ0) ∧ (p y = true → ∃ ρ3, e ρ2 = some (F y, ρ3) ∧ killL vs ρ3 = ρ0)) (hk : killL vs ρ0 = ρ0 := by rfl) :
    eComp lk vs it g c e ρ = some (.ol ((ys.filter p).map F), putB vs ρi ρ0) := by
  unfold eComp
  rw [hi]
  show ((compG lk (ys.map inj) vs g (stp c e) (ys.map inj) [] ρi).map _) = _
  rw [comp_mapL inj p F hlk ys [] ρi h0 (by rw [List.length_nil]; omega) h]
  show some (_, putB vs ρi (killL vs ρ0)) = _
  rw [hk]
  rfl
theorem beq_pts : ∀ L : List Pt, beqDs (L.map ptD) (L.map ptD) = true
  | [] => rfl
  | p :: L => by
    rw [List.map_cons, beqDs, beq_pts L]
    simp [ptD, beqD, beqDs]
/-! ## how many are no step apart -/
def addT (a b d : Int) (T : List Pt) (p : Pt) : List Pt := if (T.filter fun o => hasB a b d (p.1 - o.1) (p.2 - o.2)) = [] then T ++ [p] else T
def rowT (a b d : Int) (x : Nat) (T : List Pt) : List Pt := (List.range 8).foldl (fun T (y : Nat) => addT a b d T ((x : Int), (y : Int))) T
def cntT (a b d : Int) : List Pt := (List.range 8).foldl (fun T (x : Nat) => rowT a b d x T) []
theorem cnt_all : ((List.range 4).all fun i => (List.range 4).all fun j => (List.range (j + 1)).all fun k => (cntT ((i : Int) + 1) (k : Int) ((j : Int) + 1)).length == (i + 1) * (j + 1)) = true := by decide +kernel
structure Tk (N : Nat) (T : List Pt) : Prop where
  l : T.length ≤ N
  b : ∀ o ∈ T, 0 ≤ o.1 ∧ o.1 < 8 ∧ 0 ≤ o.2 ∧ o.2 < 8
theorem addT_ok {N : Nat} {a b d : Int} {T : List Pt} (h : Tk N T) {p : Pt} (hp : 0 ≤ p.1 ∧ p.1 < 8 ∧ 0 ≤ p.2 ∧ p.2 < 8) : Tk (N + 1) (addT a b d T p) := by
  unfold addT
  split
  · exact ⟨by rw [List.length_append, List.length_singleton]; have := h.l; omega, fun o ho => by
      rcases List.mem_append.mp ho with ho | ho
      · exact h.b o ho
      · rw [List.mem_singleton.mp ho]; exact hp⟩
  · exact ⟨by have := h.l; omega, h.b⟩
theorem bd_small {z : Int} {n : Nat} (h : z.natAbs < 2 ^ n) : Bd n z := h
section
variable {a b d : Int} (ha : 1 ≤ a) (hd : 1 ≤ d) (ba : Bd 2000 a) (bb : Bd 2000 b) (bd : Bd 2000 d)
include ha hd ba bb bd
theorem w_cell1 {N : Nat} {T : List Pt} (hT : Tk N T) (hN : N ≤ 100) {x y : Nat} (hx : x < 8) (hy : y < 8) : b__law_counted_1 [.sh (bsD a b d), .ol ((T.map ptD)), .sh (.int ((x : Int))), .sh (.int ((y : Int))), .dead] = some (.nx [.sh (bsD a b d), .ol (((addT a b d T ((x : Int), (y : Int))).map ptD)), .sh (.int ((x : Int))), .sh (.int ((y : Int))), .dead]) := by
  have z2 : 2 ≤ sizeLine := by decide
  have ek : k__law_counted_1 [.sh (bsD a b d), .ol ((T.map ptD)), .sh (.int ((x : Int))), .sh (.int ((y : Int))), .dead] = some (.ol ((T.filter fun o => hasB a b d ((x : Int) - o.1) ((y : Int) - o.2)).map ptD), [.sh (bsD a b d), .ol ((T.map ptD)), .sh (.int ((x : Int))), .sh (.int ((y : Int))), .dead]) := by
    rw [kk__law_counted_1]
    refine (ev_compL (lk := some 1) (vs := [4]) ptD (fun o => hasB a b d ((x : Int) - o.1) ((y : Int) - o.2)) ptD T (ρi := [.sh (bsD a b d), .ol ((T.map ptD)), .sh (.int ((x : Int))), .sh (.int ((y : Int))), .dead]) rfl rfl (beq_pts T) (by have := hT.l; unfold sizeLine; omega) ?_).trans rfl
    intro o ho
    have hb := hT.b o ho
    have eh := v_lhas (x := (x : Int) - o.1) (y := (y : Int) - o.2) ha hd ba bb bd (by unfold Bd; exact Nat.lt_of_lt_of_le (show _ < 2 ^ 5 by show _ < 32; omega) (two_le (by decide)))
    have j1 : dIx (ptD o) (.int 0) = some (.int o.1) := rfl
    have j2 : dIx (ptD o) (.int 1) = some (.int o.2) := rfl
    refine ⟨[.sh (bsD a b d), .ol ((T.map ptD)), .sh (.int ((x : Int))), .sh (.int ((y : Int))), .sh (ptD o)], [.sh (bsD a b d), .ol ((T.map ptD)), .sh (.int ((x : Int))), .sh (.int ((y : Int))), .sh (ptD o)], rfl, ?_, fun _ => rfl, fun _ => ⟨[.sh (bsD a b d), .ol ((T.map ptD)), .sh (.int ((x : Int))), .sh (.int ((y : Int))), .sh (ptD o)], rfl, rfl⟩⟩
    have eh : m__law_has [.sh (bsD a b d), .sh (.tuple [.int ((x : Int) - o.1), .int ((y : Int) - o.2)])] = some (.sh (.bool (hasB a b d ((x : Int) - o.1) ((y : Int) - o.2))), []) := eh
    generalize hasB a b d ((x : Int) - o.1) ((y : Int) - o.2) = t at *
    generalize bsD a b d = X at *
    generalize T.map ptD = Q at *
    generalize ptD o = O at *
    simp [j1, j2, z2, eh]
  have hlen : (T.map ptD).length < sizeLine := by rw [List.length_map]; have := hT.l; unfold sizeLine; omega
  unfold addT
  by_cases h : (T.filter fun o => hasB a b d ((x : Int) - o.1) ((y : Int) - o.2)) = []
  · rw [if_pos h, List.map_append]
    rw [h] at ek
    have ep : List.map ptD [((x : Int), (y : Int))] = [.tuple [.int (x : Int), .int (y : Int)]] := rfl
    rw [ep]
    have ek : k__law_counted_1 [.sh (bsD a b d), .ol ((T.map ptD)), .sh (.int ((x : Int))), .sh (.int ((y : Int))), .dead] = some (.ol [], [.sh (bsD a b d), .ol ((T.map ptD)), .sh (.int ((x : Int))), .sh (.int ((y : Int))), .dead]) := ek
    generalize bsD a b d = X at *
    generalize T.map ptD = Q at *
    refine (if_t (ρ1 := [.sh (X), .ol (Q), .sh (.int ((x : Int))), .sh (.int ((y : Int))), .dead]) ?_).trans ?_
    · simp [ek]
    · simp [lAppend, hlen, z2]
  · rw [if_neg h]
    have hn : ((T.filter fun o => hasB a b d ((x : Int) - o.1) ((y : Int) - o.2)).map ptD).length ≠ 0 := fun z => h (by rw [List.length_map] at z; exact List.eq_nil_of_length_eq_zero z)
    generalize (T.filter fun o => hasB a b d ((x : Int) - o.1) ((y : Int) - o.2)).map ptD = R at *
    generalize bsD a b d = X at *
    generalize T.map ptD = Q at *
    refine (if_f (ρ1 := [.sh (X), .ol (Q), .sh (.int ((x : Int))), .sh (.int ((y : Int))), .dead]) ?_).trans rfl
    have hR : R ≠ [] := fun z => hn (by rw [z]; rfl)
    simp [ek, hR]
theorem w_row1 {xs0 : List D} {x : Nat} (hx : x < 8) : ∀ (ys : List Nat) (T : List Pt) (N : Nat) (u3 : Cell), (∀ y ∈ ys, y < 8) → Tk N T → N + ys.length ≤ 100 → Tk (N + ys.length) (ys.foldl (fun T (y : Nat) => addT a b d T ((x : Int), (y : Int))) T) ∧
    loopF none xs0 [3] (fun x ρ => (gNm 3 x ρ).bind b__law_counted_1) (ys.map nI) [.sh (bsD a b d), .ol ((T.map ptD)), .sh (.int ((x : Int))), u3, .dead] = some (.nx [.sh (bsD a b d), .ol (((ys.foldl (fun T (y : Nat) => addT a b d T ((x : Int), (y : Int))) T).map ptD)), .sh (.int ((x : Int))), .dead, .dead]) := by
  intro ys
  induction ys with
  | nil => intro T N u3 _ hT _; exact ⟨hT, loop_nil rfl⟩
  | cons y r ih =>
    intro T N u3 hy hT hN
    rw [List.length_cons] at hN ⊢
    have y8 := hy y List.mem_cons_self
    have st := w_cell1 ha hd ba bb bd hT (by omega) hx y8
    obtain ⟨h1, h2⟩ := ih (addT a b d T ((x : Int), (y : Int))) (N + 1) (.sh (nI y)) (fun z hz => hy z (List.mem_cons_of_mem _ hz)) (addT_ok hT ⟨by omega, by simp only; omega, by omega, by simp only; omega⟩) (by omega)
    refine ⟨by rw [show N + (r.length + 1) = N + 1 + r.length by omega]; exact h1, ?_⟩
    rw [List.map_cons]
    exact (loop_cons rfl (bind_gnm.trans st)).trans h2
theorem w_blk {xs0 : List D} : ∀ (xs : List Nat) (T : List Pt) (N : Nat) (u2 : Cell), (∀ x ∈ xs, x < 8) → Tk N T → N + 8 * xs.length ≤ 100 → 
    loopF none xs0 [2, 3] (fun x ρ => (gNm 2 x ρ).bind b__law_counted_2) (xs.map nI) [.sh (bsD a b d), .ol ((T.map ptD)), u2, .dead, .dead] = some (.nx [.sh (bsD a b d), .ol (((xs.foldl (fun T (x : Nat) => rowT a b d x T) T).map ptD)), .dead, .dead, .dead]) := by
  intro xs
  induction xs with
  | nil => intro T N u3 _ hT _; exact loop_nil rfl
  | cons x r ih =>
    intro T N u2 hx hT hN
    rw [List.length_cons] at hN
    have x8 := hx x List.mem_cons_self
    obtain ⟨h1, h2⟩ := w_row1 ha hd ba bb bd (xs0 := (List.range 8).map nI) x8 (List.range 8) T N .dead (fun y hy => List.mem_range.mp hy) hT (by rw [List.length_range]; omega)
    rw [List.length_range] at h1
    have h3 := ih (rowT a b d x T) (N + 8) (.sh (nI x)) (fun z hz => hx z (List.mem_cons_of_mem _ hz)) h1 (by omega)
    rw [List.map_cons]
    refine (loop_cons rfl (bind_gnm.trans ?_)).trans h3
    show l__law_counted_1 [.sh (bsD a b d), .ol ((T.map ptD)), .sh (.int ((x : Int))), .dead, .dead] = _
    exact for_hx ll__law_counted_1 ((ev_r1 (n := 8) rfl (by decide) (by decide)).trans rfl) h2
theorem v_counted : m__law_counted [.sh (bsD a b d)] = some (.sh (.int ((cntT a b d).length : Int)), []) := by
  have w := w_blk ha hd ba bb bd (xs0 := (List.range 8).map nI) (List.range 8) [] 0 .dead (fun y hy => List.mem_range.mp hy) ⟨Nat.le_refl _, fun o h => nomatch h⟩ (by rw [List.length_range]; omega)
  have el : l__law_counted_2 [.sh (bsD a b d), .ol ([]), .dead, .dead, .dead] = some (.nx [.sh (bsD a b d), .ol (((cntT a b d).map ptD)), .dead, .dead, .dead]) := for_hx ll__law_counted_2 ((ev_r1 (n := 8) rfl (by decide) (by decide)).trans rfl) w
  have hl : ((cntT a b d).length : Int) = (((cntT a b d).map ptD).length : Int) := by rw [List.length_map]
  rw [hl]
  clear w hl ha hd ba bb bd
  generalize (cntT a b d).map ptD = Q at *
  generalize bsD a b d = X at *
  exact fn_ret (by
    show s__law_counted [.sh (X), .dead, .dead, .dead, .dead] = _
    unfold s__law_counted
    refine (seq_nx (ρ1 := [.sh (X), .ol ([]), .dead, .dead, .dead]) (by simp)).trans ?_
    refine (seq_nx el).trans ?_
    simp
    rfl)
end


theorem tkN {ds : List Int} {n : Int} (h : 0 < n) : ∃ t : Nat, tk ds n = (t : Int) ∧ (t : Int) < n := by
  have h0 := tk_nn (ns := ds) h
  have h1 := tk_lt (ns := ds) h
  exact ⟨(tk ds n).toNat, by omega, by omega⟩
theorem hp12 : dPow (.int 10) (.int 12) = some (.int 1000000000000) := by
  show (if (0 : Int) ≤ 12 ∧ (Builtin.Int.intBits 10 : Int) * 12 ≤ 134217728 then some (PyData.int ((10 : Int) ^ (12 : Int).toNat)) else none) = _
  rw [if_pos ⟨by decide, by decide⟩]
  rfl
theorem hp40 : dPow (.int 10) (.int 40) = some (.int ((10 ^ 40 : Nat) : Int)) := by
  show (if (0 : Int) ≤ 40 ∧ (Builtin.Int.intBits 10 : Int) * 40 ≤ 134217728 then some (PyData.int ((10 : Int) ^ (40 : Int).toNat)) else none) = _
  rw [if_pos ⟨by decide, by decide⟩]
  exact congrArg (fun z => some (PyData.int z)) (by decide +kernel)
theorem pow40 : (10 : Nat) ^ 40 < 2 ^ 140 := by decide +kernel
theorem small140 {n : Nat} (h : n < 2 ^ 60) : n < 2 ^ 140 := Nat.lt_of_lt_of_le h (two_le (by decide))
theorem v_number (ds ns : List Int) : ∃ (z : Int) (ds' : List Int), Bd 140 z ∧ m__law_number [.ol (is ds), .sh (.list (is ns))] = some (.sh (.int z), [.ol (is ds'), .sh (.list (is ns))]) := by
  obtain ⟨t0, h0, h0'⟩ := tkN (ds := ds) (n := 5) (by decide)
  generalize hd0 : ds.dropLast = d0
  obtain ⟨t1, h1, h1'⟩ := tkN (ds := d0) (n := 13) (by decide)
  generalize hd1 : d0.dropLast = d1
  obtain ⟨n1, d2, hn1, e1⟩ : ∃ (n1 : Nat) (d2 : List Int), n1 < 2 ^ 140 ∧ sIf (eTst (eBin (fun x y => (bEq x y).map .bool) (eVar 2) (eC (.int 0)))) (sSet 3 (eBin dAddA (eBin dMulA (eRetD (eCall1 0 0 m__law_take (rIo 0 (rCons (eC (.int 1000)) (rNil))))) (eBin dPow (eC (.int 10)) (eC (.int 12)))) (eRetD (eCall1 0 0 m__law_take (rIo 0 (rCons (eC (.int 1000)) (rNil))))))) (sNx) [.ol (is d1), .sh (.list (is ns)), .sh (.int ((t0 : Int))), .sh (.int ((t1 : Int)))] = some (.nx [.ol (is d2), .sh (.list (is ns)), .sh (.int ((t0 : Int))), .sh (.int ((n1 : Int)))]) := by
    by_cases h : t0 = 0
    · obtain ⟨t2, h2, h2'⟩ := tkN (ds := d1) (n := 1000) (by decide)
      generalize hd2 : d1.dropLast = d2
      obtain ⟨t3, h3, h3'⟩ := tkN (ds := d2) (n := 1000) (by decide)
      generalize hd3 : d2.dropLast = d3
      have m : mulOk (t2 : Int) 1000000000000 = true := mulOk_l (by omega)
      refine ⟨t2 * 1000000000000 + t3, d3, small140 (by show _ < 1152921504606846976; omega), ?_⟩
      rw [show ((t2 * 1000000000000 + t3 : Nat) : Int) = (t2 : Int) * 1000000000000 + (t3 : Int) by omega]
      simp [h, h2, hd2, h3, hd3, hp12, m]
    · exact ⟨t1, d1, small140 (by show _ < 1152921504606846976; omega), by simp [h]⟩
  obtain ⟨n2, d3, hn2, e2⟩ : ∃ (n2 : Nat) (d3 : List Int), n2 < 2 ^ 140 ∧ sIf (eAnd (eTst (eBin (fun x y => (bEq x y).map .bool) (eVar 2) (eC (.int 1)))) (eTst (eBin (fun x y => (bGt x y).map .bool) (eCB cLen (aCons (eVar 1) (aNil))) (eC (.int 0))))) (sSet 3 (eBin dMod (eCB cAbs (aCons (eCB cInt (aCons (eBin dIx (eVar 1) (eRetD (eCall1 0 0 m__law_take (rIo 0 (rCons (eCB cLen (aCons (eVar 1) (aNil))) (rNil)))))) (aNil))) (aNil))) (eBin dPow (eC (.int 10)) (eC (.int 40))))) (sNx) [.ol (is d2), .sh (.list (is ns)), .sh (.int ((t0 : Int))), .sh (.int ((n1 : Int)))] = some (.nx [.ol (is d3), .sh (.list (is ns)), .sh (.int ((t0 : Int))), .sh (.int ((n2 : Int)))]) := by
    by_cases h : t0 = 1
    · cases ns with
      | nil => exact ⟨n1, d2, hn1, by simp [h]⟩
      | cons n r =>
        have hp : (0 : Int) < ((n :: r).length : Int) := by rw [List.length_cons]; omega
        have q1 := tk_nn (ns := d2) hp
        have q2 := tk_lt (ns := d2) hp
        obtain ⟨z, _, ez⟩ := pick (zs := n :: r) q1 q2
        generalize hd3 : d2.dropLast = d3
        have hlen : ((is (n :: r)).length : Int) = ((n :: r).length : Int) := by unfold is; rw [List.length_map]
        have ha : (if z < 0 then -z else z) = (z.natAbs : Int) := by split <;> omega
        have hm := fmN z.natAbs (10 ^ 40)
        have hT : ((10 ^ 40 : Nat) : Int) ≠ 0 := by decide
        have hp4 := hp40
        refine ⟨z.natAbs % 10 ^ 40, d3, Nat.lt_trans (Nat.mod_lt _ (Nat.pow_pos (by decide))) pow40, ?_⟩
        rw [← hm]
        have hl0 : ((n :: r).length : Int) ≠ 0 := by omega
        have hlc : (n :: r).length ≠ 0 := by rw [List.length_cons]; omega
        generalize ((10 ^ 40 : Nat) : Int) = T at *
        generalize hq : tk d2 ((n :: r).length : Int) = t at *
        have hg0 : (0 : Int) < ((n :: r).length : Int) := hp
        generalize is (n :: r) = Q at *
        generalize (n :: r) = R at *
        simp [h, hlen, hq, hd3, ez, ha, hp4, hT, hl0, hlc]
    · have h2 : ¬ (t0 : Int) = 1 := by omega
      exact ⟨n1, d2, hn1, by simp [h2]⟩
  obtain ⟨t4, h4, h4'⟩ := tkN (ds := d3) (n := 2) (by decide)
  generalize hd4 : d3.dropLast = d4
  have m1 : mulOk 2 (t4 : Int) = true := mulOk_l (by decide)
  have m2 : mulOk (n2 : Int) (1 - 2 * (t4 : Int)) = true := mulOk_r (by omega)
  refine ⟨(n2 : Int) * (1 - 2 * (t4 : Int)), d4, ?_, fn_io (ρ' := [.ol (is d4), .sh (.list (is ns)), .sh (.int ((t0 : Int))), .sh (.int ((n2 : Int)))]) ?_ rfl rfl⟩
  · unfold Bd
    rw [Int.natAbs_mul]
    have : (1 - 2 * (t4 : Int)).natAbs = 1 := by omega
    rw [this, Nat.mul_one]
    exact hn2
  · show s__law_number [.ol (is ds), .sh (.list (is ns)), .dead, .dead] = _
    unfold s__law_number
    refine (seq_nx (ρ1 := [.ol (is d0), .sh (.list (is ns)), .sh (.int ((t0 : Int))), .dead]) (by simp [h0, hd0])).trans ?_
    refine (seq_nx (ρ1 := [.ol (is d1), .sh (.list (is ns)), .sh (.int ((t0 : Int))), .sh (.int ((t1 : Int)))]) (by simp [h1, hd1])).trans ?_
    refine (seq_nx e1).trans ?_
    refine (seq_nx e2).trans ?_
    simp [h4, hd4, m1, m2]
theorem v_small (ds : List Int) : ∃ (a b d : Int) (ds' : List Int), 1 ≤ a ∧ a ≤ 4 ∧ 0 ≤ b ∧ b < d ∧ d ≤ 4 ∧ m__law_small_base [.ol (is ds)] = some (.sh (bsD a b d), [.ol (is ds')]) := by
  obtain ⟨t0, h0, h0'⟩ := tkN (ds := ds) (n := 4) (by decide)
  generalize hd0 : ds.dropLast = d0
  obtain ⟨t1, h1, h1'⟩ := tkN (ds := d0) (n := 4) (by decide)
  generalize hd1 : d0.dropLast = d1
  obtain ⟨t2, h2, h2'⟩ := tkN (ds := d1) (n := 1 + (t0 : Int)) (by omega)
  generalize hd2 : d1.dropLast = d2
  have z2 : 2 ≤ sizeLine := by decide
  have n0 : 1 + (t0 : Int) ≠ 0 := by omega
  exact ⟨1 + (t1 : Int), (t2 : Int), 1 + (t0 : Int), d2, by omega, by omega, by omega, h2', by omega, fn_io (ρ' := [.ol (is d2), .sh (.int (1 + (t0 : Int)))]) (by
    show s__law_small_base [.ol (is ds), .dead] = _
    simp [s__law_small_base, h0, hd0, h1, hd1, h2, hd2, z2, n0, bsD]) rfl rfl⟩
theorem w_steps {ns : List Int} {first : Pt} (hf : Bd 140 first.1 ∧ Bd 140 first.2) {line : Int} {xs0 : List D} : ∀ (ks : List D) (ds : List Int) (S : List Pt) (u5 u6 u7 : Cell), (∀ t ∈ S, Bd 150 t.1 ∧ Bd 150 t.2) → S.length + ks.length ≤ 100 → ∃ (ds' : List Int) (S' : List Pt), S'.length = S.length + ks.length ∧ (∀ t ∈ S', Bd 150 t.1 ∧ Bd 150 t.2) ∧
    loopF none xs0 [5, 6, 7] (fun x ρ => (gNm 5 x ρ).bind b__law_steps_1) ks [.ol (is ds), .sh (.list (is ns)), .ol ((S.map ptD)), .sh (.int (line)), .sh (ptD first), u5, u6, u7] = some (.nx [.ol (is ds'), .sh (.list (is ns)), .ol ((S'.map ptD)), .sh (.int (line)), .sh (ptD first), .dead, .dead, .dead]) := by
  intro ks
  induction ks with
  | nil => intro ds S u5 u6 u7 hS _; exact ⟨ds, S, rfl, hS, loop_nil rfl⟩
  | cons k r ih =>
    intro ds S u5 u6 u7 hS hl
    rw [List.length_cons] at hl
    obtain ⟨z1, d1, b1, e1⟩ := v_number ds ns
    obtain ⟨z2, d2, b2, e2⟩ := v_number d1 ns
    have y2 : 2 ≤ sizeLine := by decide
    have bz : Bd 150 0 := by unfold Bd; decide +kernel
    obtain ⟨q, d3, v7, bq, e3⟩ : ∃ (q : Pt) (d3 : List Int) (v7 : Cell), (Bd 150 q.1 ∧ Bd 150 q.2) ∧ sIf (eTst (eBin (fun x y => (bEq x y).map .bool) (eVar 3) (eC (.int 0)))) (sSeq (sSet 7 (eBin dSub (eRetD (eCall1 0 0 m__law_take (rIo 0 (rCons (eC (.int 9)) (rNil))))) (eC (.int 4))))
  (sSet 6 (eTup (aCons (eBin dMulA (eBin dIx (eVar 4) (eC (.int 0))) (eVar 7)) (aCons (eBin dMulA (eBin dIx (eVar 4) (eC (.int 1))) (eVar 7)) (aNil)))))) (sNx) [.ol (is d2), .sh (.list (is ns)), .ol ((S.map ptD)), .sh (.int (line)), .sh (ptD first), .sh (k), .sh (ptD (z1, z2)), .dead] = some (.nx [.ol (is d3), .sh (.list (is ns)), .ol ((S.map ptD)), .sh (.int (line)), .sh (ptD first), .sh (k), .sh (ptD q), v7]) := by
      by_cases h : line = 0
      · obtain ⟨t, ht, ht'⟩ := tkN (ds := d2) (n := 9) (by decide)
        generalize hd3 : d2.dropLast = d3
        have bt : Bd 5 ((t : Int) - 4) := by unfold Bd; show _ < 32; omega
        have m1 : mulOk first.1 ((t : Int) - 4) = true := hf.1.mulOk bt (by decide)
        have m2 : mulOk first.2 ((t : Int) - 4) = true := hf.2.mulOk bt (by decide)
        refine ⟨(first.1 * ((t : Int) - 4), first.2 * ((t : Int) - 4)), d3, .sh (.int ((t : Int) - 4)), ⟨(hf.1.mul bt).mono (by decide), (hf.2.mul bt).mono (by decide)⟩, ?_⟩
        have j1 : dIx (ptD first) (.int 0) = some (.int first.1) := rfl
        have j2 : dIx (ptD first) (.int 1) = some (.int first.2) := rfl
        have ep : ptD (first.1 * ((t : Int) - 4), first.2 * ((t : Int) - 4)) = .tuple [.int (first.1 * ((t : Int) - 4)), .int (first.2 * ((t : Int) - 4))] := rfl
        rw [ep]
        clear ih hS
        generalize ptD first = F at *
        generalize S.map ptD = Q at *
        generalize ptD (z1, z2) = Z at *
        simp [h, ht, hd3, m1, m2, j1, j2, y2]
      · refine ⟨(z1, z2), d2, .dead, ⟨b1.mono (by decide), b2.mono (by decide)⟩, ?_⟩
        generalize ptD first = F at *
        generalize S.map ptD = Q at *
        generalize ptD (z1, z2) = Z at *
        simp [h]
    have i0 : ∀ p : Pt, dIx (ptD p) (.int 0) = some (.int p.1) := fun _ => rfl
    have i1 : ∀ p : Pt, dIx (ptD p) (.int 1) = some (.int p.2) := fun _ => rfl
    obtain ⟨q2, d4, bq2, e4⟩ : ∃ (q2 : Pt) (d4 : List Int), (Bd 150 q2.1 ∧ Bd 150 q2.2) ∧ sIf (eTst (eBin (fun x y => (bEq x y).map .bool) (eRetD (eCall1 0 0 m__law_take (rIo 0 (rCons (eC (.int 8)) (rNil))))) (eC (.int 0)))) (sSet 6 (eTup (aCons (eBin dIx (eVar 6) (eC (.int 0))) (aCons (eC (.int 0)) (aNil))))) (sNx) [.ol (is d3), .sh (.list (is ns)), .ol ((S.map ptD)), .sh (.int (line)), .sh (ptD first), .sh (k), .sh (ptD q), v7] = some (.nx [.ol (is d4), .sh (.list (is ns)), .ol ((S.map ptD)), .sh (.int (line)), .sh (ptD first), .sh (k), .sh (ptD q2), v7]) := by
      have j1 := i0 q
      by_cases h : tk d3 8 = 0
      · refine ⟨(q.1, 0), d3.dropLast, ⟨bq.1, bz⟩, ?_⟩
        have ep : ptD (q.1, 0) = .tuple [.int q.1, .int 0] := rfl
        rw [ep]
        clear ih hS
        generalize ptD first = F at *
        generalize S.map ptD = Q at *
        generalize ptD q = Z at *
        simp [h, j1, y2]
      · refine ⟨q, d3.dropLast, bq, ?_⟩
        generalize ptD first = F at *
        generalize S.map ptD = Q at *
        generalize ptD q = Z at *
        simp [h]
    obtain ⟨q3, d5, bq3, e5⟩ : ∃ (q3 : Pt) (d5 : List Int), (Bd 150 q3.1 ∧ Bd 150 q3.2) ∧ sIf (eTst (eBin (fun x y => (bEq x y).map .bool) (eRetD (eCall1 0 0 m__law_take (rIo 0 (rCons (eC (.int 8)) (rNil))))) (eC (.int 0)))) (sSet 6 (eTup (aCons (eC (.int 0)) (aCons (eBin dIx (eVar 6) (eC (.int 1))) (aNil))))) (sNx) [.ol (is d4), .sh (.list (is ns)), .ol ((S.map ptD)), .sh (.int (line)), .sh (ptD first), .sh (k), .sh (ptD q2), v7] = some (.nx [.ol (is d5), .sh (.list (is ns)), .ol ((S.map ptD)), .sh (.int (line)), .sh (ptD first), .sh (k), .sh (ptD q3), v7]) := by
      have j1 := i1 q2
      by_cases h : tk d4 8 = 0
      · refine ⟨(0, q2.2), d4.dropLast, ⟨bz, bq2.2⟩, ?_⟩
        have ep : ptD (0, q2.2) = .tuple [.int 0, .int q2.2] := rfl
        rw [ep]
        clear ih hS
        generalize ptD first = F at *
        generalize S.map ptD = Q at *
        generalize ptD q2 = Z at *
        simp [h, j1, y2]
      · refine ⟨q2, d4.dropLast, bq2, ?_⟩
        generalize ptD first = F at *
        generalize S.map ptD = Q at *
        generalize ptD q2 = Z at *
        simp [h]
    obtain ⟨d6, S', l6, b6, e6⟩ := ih d5 (S ++ [q3]) (.sh k) (.sh (ptD q3)) v7 (fun t ht => by
      rcases List.mem_append.mp ht with ht | ht
      · exact hS t ht
      · rw [List.mem_singleton.mp ht]; exact bq3) (by rw [List.length_append, List.length_singleton]; omega)
    rw [List.length_append, List.length_singleton] at l6
    refine ⟨d6, S', by rw [l6, List.length_cons]; omega, b6, (loop_cons rfl ?_).trans e6⟩
    rw [bind_gnm]
    show b__law_steps_1 [.ol (is ds), .sh (.list (is ns)), .ol ((S.map ptD)), .sh (.int (line)), .sh (ptD first), .sh (k), .dead, .dead] = _
    have hz : (S.map ptD).length < sizeLine := by rw [List.length_map]; unfold sizeLine; omega
    rw [List.map_append]
    have ep : ptD (z1, z2) = .tuple [.int z1, .int z2] := rfl
    have e7 : List.map ptD [q3] = [ptD q3] := rfl
    rw [e7]
    clear ih hS b6 l6 e6
    unfold b__law_steps_1
    refine (seq_nx (ρ1 := [.ol (is d2), .sh (.list (is ns)), .ol ((S.map ptD)), .sh (.int (line)), .sh (ptD first), .sh (k), .sh (ptD (z1, z2)), .dead]) ?_).trans ?_
    · rw [ep]
      generalize ptD first = F at *
      generalize S.map ptD = Q at *
      simp [e1, e2, y2]
    refine (seq_nx e3).trans ?_
    refine (seq_nx e4).trans ?_
    refine (seq_nx e5).trans ?_
    generalize ptD first = F at *
    generalize S.map ptD = Q at *
    generalize ptD q3 = Z at *
    simp [lAppend, hz]
theorem v_steps (ds ns : List Int) : ∃ (L : List Pt) (ds' : List Int), L.length ≤ 6 ∧ (∀ t ∈ L, Bd 150 t.1 ∧ Bd 150 t.2) ∧ m__law_steps [.ol (is ds), .sh (.list (is ns))] = some (.sh (.tuple (L.map ptD)), [.ol (is ds'), .sh (.list (is ns))]) := by
  obtain ⟨t0, h0, h0'⟩ := tkN (ds := ds) (n := 5) (by decide)
  generalize hd0 : ds.dropLast = d0
  obtain ⟨z1, d1, b1, e1⟩ := v_number d0 ns
  obtain ⟨z2, d2, b2, e2⟩ := v_number d1 ns
  obtain ⟨t1, h1, h1'⟩ := tkN (ds := d2) (n := 7) (by decide)
  generalize hd3 : d2.dropLast = d3
  obtain ⟨d4, S, l4, b4, e4⟩ := w_steps (ns := ns) (first := (z1, z2)) ⟨b1, b2⟩ (line := (t0 : Int)) (xs0 := (List.range t1).map nI) ((List.range t1).map nI) d3 [] .dead .dead .dead (fun t h => nomatch h) (by rw [List.length_map, List.length_range, List.length_nil]; omega)
  rw [List.length_map, List.length_range, List.length_nil] at l4
  have y2 : 2 ≤ sizeLine := by decide
  have el : l__law_steps_1 [.ol (is d2), .sh (.list (is ns)), .ol ([]), .sh (.int ((t0 : Int))), .sh (ptD (z1, z2)), .dead, .dead, .dead] = some (.nx [.ol (is d4), .sh (.list (is ns)), .ol ((S.map ptD)), .sh (.int ((t0 : Int))), .sh (ptD (z1, z2)), .dead, .dead, .dead]) := by
    refine for_hx ll__law_steps_1 ?_ e4
    refine (ev_r1 (n := (t1 : Int)) (ρ1 := [.ol (is d3), .sh (.list (is ns)), .ol ([]), .sh (.int ((t0 : Int))), .sh (ptD (z1, z2)), .dead, .dead, .dead]) ?_ (by omega) (by omega)).trans ?_
    · generalize ptD (z1, z2) = F
      simp [h1, hd3]
    · rw [Int.toNat_natCast]; rfl
  refine ⟨S, d4, by omega, b4, ?_⟩
  have ep : ptD (z1, z2) = .tuple [.int z1, .int z2] := rfl
  rw [ep] at el
  clear e4 b4 l4
  generalize S.map ptD = Q at *
  exact fn_io (ρ' := [.ol (is d4), .sh (.list (is ns)), .sh (.list (Q)), .sh (.int ((t0 : Int))), .sh (.tuple ([.int z1, .int z2])), .dead, .dead, .dead]) (by
    show s__law_steps [.ol (is ds), .sh (.list (is ns)), .dead, .dead, .dead, .dead, .dead, .dead] = _
    unfold s__law_steps
    refine (seq_nx (ρ1 := [.ol (is ds), .sh (.list (is ns)), .ol ([]), .dead, .dead, .dead, .dead, .dead]) (by simp)).trans ?_
    refine (seq_nx (ρ1 := [.ol (is d0), .sh (.list (is ns)), .ol ([]), .sh (.int ((t0 : Int))), .dead, .dead, .dead, .dead]) (by simp [h0, hd0])).trans ?_
    refine (seq_nx (ρ1 := [.ol (is d2), .sh (.list (is ns)), .ol ([]), .sh (.int ((t0 : Int))), .sh (.tuple ([.int z1, .int z2])), .dead, .dead, .dead]) (by simp [e1, e2, y2])).trans ?_
    refine (seq_nx el).trans ?_
    simp) rfl rfl


theorem v_right {n : Nat} {L : List Pt} (hn : n ≤ 700) (hl : L.length ≤ 1000) (hL : ∀ t ∈ L, Bd n t.1 ∧ Bd 700 t.2) (hD : ∀ s ∈ L, ∀ t ∈ L, Bd 398 (det2 s t)) (hB : 700 + L.length * (n * 1500) ≤ 9000000) :
    ∃ told, m_base_of [.sh (.tuple (L.map ptD))] = some (.sh told, []) ∧ m__law_base_right [.sh told, .sh (.tuple (L.map ptD))] = some (.sh (.bool true), []) ∧ (told = .none ∨ ∃ a b d, told = bsD a b d ∧ 1 ≤ a ∧ 0 ≤ b ∧ b < d ∧ Bas L a b d) := by
  have hL7 : ∀ t ∈ L, Bd 700 t.1 ∧ Bd 700 t.2 := fun t ht => ⟨(hL t ht).1.mono hn, (hL t ht).2⟩
  rcases v_base hn hL hB with ⟨⟨a, b, d, H, h0⟩, e⟩ | ⟨a, b, d, H, q1, q2, q3, e⟩
  · exact ⟨.none, e, v_base_right0 hl hL7 hD H h0, .inl rfl⟩
  · exact ⟨bsD a b d, e, v_base_right hl hL7 hD H q1 q2 q3, .inr ⟨a, b, d, rfl, q1, q2, q3, H⟩⟩
structure Gd (a b d : Int) : Prop where
  pa : 1 ≤ a
  pb : 0 ≤ b
  pd : b < d
  ba : Bd 320 a
  bb : Bd 320 b
  bd : Bd 320 d
  ad : Bd 320 (a * d)
theorem e_sameD {x : D} (h : sok 11 x = true) : m__law_same 12 [.sh x, .sh x] = some (.sh (.bool true), []) := v_same 11 _ h
theorem sok_bs (a b d : Int) : sok 11 (bsD a b d) = true := by simp [bsD, sok, soks]
theorem w_place {u0 u1 u2 u3 u4 u6 u7 u8 u9 : Cell} {a b d : Int} (G : Gd a b d) {q : Pt} (hq : Bd 4000 q.1) : b__law_bases_right_1 [u0, u1, u2, u3, u4, .sh (bsD a b d), u6, u7, u8, u9, .sh (ptD q)] = some (.nx [u0, u1, u2, u3, u4, .sh (bsD a b d), u6, u7, u8, u9, .sh (ptD q)]) := by
  have hd : 1 ≤ d := by have := G.pb; have := G.pd; omega
  have e1 := v_has_step (x := q.1) (y := q.2) G.pa hd (G.ba.mono (by decide)) (G.bb.mono (by decide)) (G.bd.mono (by decide)) hq
  have e2 := v_lhas (x := q.1) (y := q.2) G.pa hd (G.ba.mono (by decide)) (G.bb.mono (by decide)) (G.bd.mono (by decide)) hq
  have e3 := e_sameD (x := .bool (hasB a b d q.1 q.2)) rfl
  have e1 : m_has_step [.sh (bsD a b d), .sh (ptD q)] = some (.sh (.bool (hasB a b d q.1 q.2)), []) := e1
  have e2 : m__law_has [.sh (bsD a b d), .sh (ptD q)] = some (.sh (.bool (hasB a b d q.1 q.2)), []) := e2
  generalize hasB a b d q.1 q.2 = t at *
  generalize bsD a b d = X at *
  generalize ptD q = P at *
  simp [b__law_bases_right_1, e1, e2, e3]
theorem w_one {u2 u3 u4 : Cell} {ns : List Int} {a b d : Int} (G : Gd a b d) (ds : List Int) : ∃ (ds' : List Int) (ρ' : En), b__law_bases_right_2 [.ol (is ds), .sh (.list (is ns)), u2, u3, u4, .sh (bsD a b d), .dead, .dead, .dead, .dead, .dead] = some (.nx ρ') ∧ killL [5, 6, 7, 8, 9, 10] ρ' = [.ol (is ds'), .sh (.list (is ns)), u2, u3, u4, .dead, .dead, .dead, .dead, .dead, .dead] := by
  obtain ⟨x, d1, bx, ex⟩ := v_number ds ns
  obtain ⟨y, d2, by_, ey⟩ := v_number d1 ns
  have i0 : dIx (bsD a b d) (.int 0) = some (.tuple [.int a, .int b]) := rfl
  have i1 : dIx (bsD a b d) (.int 1) = some (.tuple [.int 0, .int d]) := rfl
  have eo := v_index_of (b := b) (G.ba.mono (show 320 ≤ 500 by decide)) (G.bd.mono (show 320 ≤ 500 by decide))
  have eb := v_base_own G.pa G.pb G.pd (G.ba.mono (by decide)) (G.bb.mono (by decide)) (G.bd.mono (by decide))
  have s1 := e_sameD (x := .int (a * d)) rfl
  have s2 := e_sameD (sok_bs a b d)
  have m0 : mulOk a d = true := G.ba.mulOk G.bd (by decide)
  have m1 : mulOk x a = true := bx.mulOk G.ba (by decide)
  have m2 : mulOk x b = true := bx.mulOk G.bb (by decide)
  have m3 : mulOk y d = true := by_.mulOk G.bd (by decide)
  have z2 : 2 ≤ sizeLine := by decide
  have z6 : 6 ≤ sizeLine := by decide
  have bs : Bd 500 (x * a) := (bx.mul G.ba).mono (by decide)
  refine ⟨d2, [.ol (is d2), .sh (.list (is ns)), u2, u3, u4, .sh (bsD a b d), .sh (.int (x)), .sh (.int (y)), .sh (ptD (x * a, x * b + y * d)), .sh (.list (([(x * a, x * b + y * d), (x * a + 1, x * b + y * d), (x * a, x * b + y * d + 1), (x * a, x * b + y * d - b), (x, y), (0, 0)].map ptD))), .dead], ?_, rfl⟩
  unfold b__law_bases_right_2
  refine (seq_nx (if_f (ρ1 := [.ol (is ds), .sh (.list (is ns)), u2, u3, u4, .sh (bsD a b d), .dead, .dead, .dead, .dead, .dead]) ?_)).trans ?_
  · generalize bsD a b d = X at *
    simp [i0, i1, eo, eb, s1, s2, m0]
  refine (seq_nx (ρ1 := [.ol (is d1), .sh (.list (is ns)), u2, u3, u4, .sh (bsD a b d), .sh (.int (x)), .dead, .dead, .dead, .dead]) ?_).trans ?_
  · generalize bsD a b d = X at *
    simp [ex]
  refine (seq_nx (ρ1 := [.ol (is d2), .sh (.list (is ns)), u2, u3, u4, .sh (bsD a b d), .sh (.int (x)), .sh (.int (y)), .dead, .dead, .dead]) ?_).trans ?_
  · generalize bsD a b d = X at *
    simp [ey]
  have ep : ptD (x * a, x * b + y * d) = .tuple [.int (x * a), .int (x * b + y * d)] := rfl
  refine (seq_nx (ρ1 := [.ol (is d2), .sh (.list (is ns)), u2, u3, u4, .sh (bsD a b d), .sh (.int (x)), .sh (.int (y)), .sh (ptD (x * a, x * b + y * d)), .dead, .dead]) ?_).trans ?_
  · rw [ep]
    generalize bsD a b d = X at *
    simp [i0, i1, m1, m2, m3, z2]
  refine (seq_nx (ρ1 := [.ol (is d2), .sh (.list (is ns)), u2, u3, u4, .sh (bsD a b d), .sh (.int (x)), .sh (.int (y)), .sh (ptD (x * a, x * b + y * d)), .sh (.list (([(x * a, x * b + y * d), (x * a + 1, x * b + y * d), (x * a, x * b + y * d + 1), (x * a, x * b + y * d - b), (x, y), (0, 0)].map ptD))), .dead]) ?_).trans ?_
  · have em : [(x * a, x * b + y * d), (x * a + 1, x * b + y * d), (x * a, x * b + y * d + 1), (x * a, x * b + y * d - b), (x, y), (0, 0)].map ptD = [.tuple [.int (x * a), .int (x * b + y * d)], .tuple [.int (x * a + 1), .int (x * b + y * d)], .tuple [.int (x * a), .int (x * b + y * d + 1)], .tuple [.int (x * a), .int (x * b + y * d - b)], .tuple [.int x, .int y], .tuple [.int 0, .int 0]] := rfl
    rw [em, ep]
    clear em ep bs
    generalize x * a = A at *
    generalize x * b + y * d = B at *
    generalize bsD a b d = X at *
    simp [i0, i1, z2, z6]
  refine for_hx ll__law_bases_right_1 (xs := [(x * a, x * b + y * d), (x * a + 1, x * b + y * d), (x * a, x * b + y * d + 1), (x * a, x * b + y * d - b), (x, y), (0, 0)].map ptD) (ρ1 := [.ol (is d2), .sh (.list (is ns)), u2, u3, u4, .sh (bsD a b d), .sh (.int (x)), .sh (.int (y)), .sh (ptD (x * a, x * b + y * d)), .sh (.list (([(x * a, x * b + y * d), (x * a + 1, x * b + y * d), (x * a, x * b + y * d + 1), (x * a, x * b + y * d - b), (x, y), (0, 0)].map ptD))), .dead]) ?_ ?_
  · generalize List.map ptD _ = Q
    rfl
  · refine loop_same ptD _ (ρ0 := [.ol (is d2), .sh (.list (is ns)), u2, u3, u4, .sh (bsD a b d), .sh (.int (x)), .sh (.int (y)), .sh (ptD (x * a, x * b + y * d)), .sh (.list (([(x * a, x * b + y * d), (x * a + 1, x * b + y * d), (x * a, x * b + y * d + 1), (x * a, x * b + y * d - b), (x, y), (0, 0)].map ptD))), .dead]) (fun q hq => ⟨[.ol (is d2), .sh (.list (is ns)), u2, u3, u4, .sh (bsD a b d), .sh (.int (x)), .sh (.int (y)), .sh (ptD (x * a, x * b + y * d)), .sh (.list (([(x * a, x * b + y * d), (x * a + 1, x * b + y * d), (x * a, x * b + y * d + 1), (x * a, x * b + y * d - b), (x, y), (0, 0)].map ptD))), .sh (ptD q)], .inl (bind_gnm.trans (w_place (q := q) G ?_)), rfl⟩) rfl
    · have b0 : Bd 4000 0 := by unfold Bd; exact Nat.pow_pos (by decide)
      have b1 : Bd 4000 (x * a + 1) := (bs.add (show Bd 2 1 by unfold Bd; decide)).mono (by decide)
      simp only [List.mem_cons, List.not_mem_nil, or_false] at hq
      rcases hq with rfl | rfl | rfl | rfl | rfl | rfl
      · exact bs.mono (by decide)
      · exact b1
      · exact bs.mono (by decide)
      · exact bs.mono (by decide)
      · exact bx.mono (by decide)
      · exact b0
theorem bd4 {z : Int} (h0 : 0 ≤ z) (h : z ≤ 4) : Bd 3 z := by unfold Bd; show _ < 8; omega
theorem gd_small {a b d : Int} (h1 : 1 ≤ a) (h2 : a ≤ 4) (h3 : 0 ≤ b) (h4 : b < d) (h5 : d ≤ 4) : Gd a b d :=
  ⟨h1, h3, h4, (bd4 (by omega) h2).mono (by decide), (bd4 h3 (by omega)).mono (by decide), (bd4 (by omega) h5).mono (by decide), ((bd4 (by omega) h2).mul (bd4 (by omega) h5)).mono (by decide)⟩
theorem v_bases_right (ds ns : List Int) : ∃ ds', m__law_bases_right [.ol (is ds), .sh (.list (is ns))] = some (.sh (.bool true), [.ol (is ds'), .sh (.list (is ns))]) := by
  obtain ⟨L, d1, hl, hL, e1⟩ := v_steps ds ns
  have hD : ∀ s ∈ L, ∀ t ∈ L, Bd 301 (det2 s t) := fun s hs t ht => (((hL s hs).1.mul (hL t ht).2).sub ((hL s hs).2.mul (hL t ht).1)).mono (by decide)
  obtain ⟨told, e2, e3, h⟩ := v_right (n := 150) (L := L) (by decide) (by omega) (fun t ht => ⟨(hL t ht).1, (hL t ht).2.mono (by decide)⟩) (fun s hs t ht => (hD s hs t ht).mono (by decide)) (by omega)
  obtain ⟨a2, b2, d2, dd, p1, p2, p3, p4, p5, e4⟩ := v_small d1
  have Gs := gd_small p1 p2 p3 p4 p5
  obtain ⟨a, b, d, G, e5⟩ : ∃ a b d, Gd a b d ∧ sIf (eTst (eBin (fun x y => (bIsN x y).map .bool) (eVar 3) (eC .none))) (sSet 3 (eVar 4)) (sNx) [.ol (is dd), .sh (.list (is ns)), .sh (.tuple ((L.map ptD))), .sh (told), .sh (bsD a2 b2 d2), .dead, .dead, .dead, .dead, .dead, .dead] = some (.nx [.ol (is dd), .sh (.list (is ns)), .sh (.tuple ((L.map ptD))), .sh (bsD a b d), .sh (bsD a2 b2 d2), .dead, .dead, .dead, .dead, .dead, .dead]) := by
    rcases h with rfl | ⟨a, b, d, rfl, q1, q2, q3, H⟩
    · refine ⟨a2, b2, d2, Gs, ?_⟩
      generalize bsD a2 b2 d2 = X
      generalize L.map ptD = Q
      simp
    · obtain ⟨B1, B2, B3⟩ := bas_bd H q1 q2 q3 hD (by decide)
      have hi := idx_bd hD (by decide)
      rw [bas_idx H] at hi
      refine ⟨a, b, d, ⟨q1, q2, q3, B1.mono (by decide), B2.mono (by decide), B3.mono (by decide), (Bd.le (hi.mono (by decide)) (by omega))⟩, ?_⟩
      have hn : isNone (bsD a b d) = false := rfl
      generalize bsD a2 b2 d2 = X
      generalize bsD a b d = Y at *
      generalize L.map ptD = Q
      simp [hn]
  have ec := v_counted (a := a2) (b := b2) (d := d2) p1 (by omega) ((Gs.ba).mono (by decide)) ((Gs.bb).mono (by decide)) ((Gs.bd).mono (by decide))
  have hc : ((cntT a2 b2 d2).length : Int) = a2 * d2 := by
    have h1 := List.all_eq_true.mp cnt_all (a2 - 1).toNat (List.mem_range.mpr (by omega))
    have h2 := List.all_eq_true.mp h1 (d2 - 1).toNat (List.mem_range.mpr (by omega))
    have h3 := List.all_eq_true.mp h2 b2.toNat (List.mem_range.mpr (by omega))
    rw [beq_iff_eq] at h3
    rw [show ((a2 - 1).toNat : Int) + 1 = a2 by omega, show ((d2 - 1).toNat : Int) + 1 = d2 by omega, show (b2.toNat : Int) = b2 by omega] at h3
    rw [h3, Int.natCast_mul, show (((a2 - 1).toNat + 1 : Nat) : Int) = a2 by omega, show (((d2 - 1).toNat + 1 : Nat) : Int) = d2 by omega]
  rw [hc] at ec
  have ei := v_index_of (b := b2) (Gs.ba.mono (show 320 ≤ 500 by decide)) (Gs.bd.mono (show 320 ≤ 500 by decide))
  have s1 := e_sameD (x := .int (a2 * d2)) rfl
  -- the loop over both
  obtain ⟨d3, ρ3, w1, w2⟩ := w_one (u2 := .sh (.tuple (L.map ptD))) (u3 := .sh (bsD a b d)) (u4 := .sh (bsD a2 b2 d2)) (ns := ns) G dd
  obtain ⟨d4, ρ4, w3, w4⟩ := w_one (u2 := .sh (.tuple (L.map ptD))) (u3 := .sh (bsD a b d)) (u4 := .sh (bsD a2 b2 d2)) (ns := ns) Gs d3
  have el : l__law_bases_right_2 [.ol (is dd), .sh (.list (is ns)), .sh (.tuple ((L.map ptD))), .sh (bsD a b d), .sh (bsD a2 b2 d2), .dead, .dead, .dead, .dead, .dead, .dead] = some (.nx [.ol (is d4), .sh (.list (is ns)), .sh (.tuple ((L.map ptD))), .sh (bsD a b d), .sh (bsD a2 b2 d2), .dead, .dead, .dead, .dead, .dead, .dead]) := by
    refine for_hx ll__law_bases_right_2 (xs := [bsD a b d, bsD a2 b2 d2]) (ρ1 := [.ol (is dd), .sh (.list (is ns)), .sh (.tuple ((L.map ptD))), .sh (bsD a b d), .sh (bsD a2 b2 d2), .dead, .dead, .dead, .dead, .dead, .dead]) ?_ ?_
    · generalize bsD a2 b2 d2 = X
      generalize bsD a b d = Y at *
      generalize L.map ptD = Q
      have z2 : 2 ≤ sizeLine := by decide
      simp [z2]
    · refine (loop_cons (ρ' := ρ3) rfl (bind_gnm.trans w1)).trans ((loop_cons (ρ' := ρ4) rfl ?_).trans ((loop_nil rfl).trans (by rw [w4])))
      rw [w2]
      exact bind_gnm.trans w3
  -- joined
  obtain ⟨told2, e6, e7, _⟩ := v_right (n := 320) (L := [(a, b), (0, d), (a2, b2), (0, d2)]) (by decide) (by simp) (fun t ht => by
    have b0 : Bd 320 0 := by unfold Bd; exact Nat.pow_pos (by decide)
    simp only [List.mem_cons, List.not_mem_nil, or_false] at ht
    rcases ht with rfl | rfl | rfl | rfl
    · exact ⟨G.ba, G.bb.mono (by decide)⟩
    · exact ⟨b0, G.bd.mono (by decide)⟩
    · exact ⟨Gs.ba, Gs.bb.mono (by decide)⟩
    · exact ⟨b0, Gs.bd.mono (by decide)⟩) (fun s hs t ht => by
    have k1 := bd4 (show 0 ≤ a2 by omega) p2
    have k2 := bd4 p3 (show b2 ≤ 4 by omega)
    have k3 := bd4 (show 0 ≤ d2 by omega) p5
    have z : Bd 1 0 := by unfold Bd; decide
    have zz : ∀ {n : Nat} {x : Int}, Bd n x → Bd n (x * 0) := fun h => by rw [Int.mul_zero]; unfold Bd; exact Nat.pow_pos (by decide)
    have zr : ∀ {n : Nat} {x : Int}, Bd n x → Bd n (0 * x) := fun h => by rw [Int.zero_mul]; unfold Bd; exact Nat.pow_pos (by decide)
    have da : Bd 320 (d * a) := by rw [Int.mul_comm]; exact G.ad
    have ad : Bd 320 (a * b - b * a) := by rw [Int.mul_comm b a, Int.sub_self]; unfold Bd; exact Nat.pow_pos (by decide)
    have ad2 : Bd 320 (a2 * b2 - b2 * a2) := by rw [Int.mul_comm b2 a2, Int.sub_self]; unfold Bd; exact Nat.pow_pos (by decide)
    unfold det2
    simp only [List.mem_cons, List.not_mem_nil, or_false] at hs ht
    rcases hs with rfl | rfl | rfl | rfl <;> rcases ht with rfl | rfl | rfl | rfl <;> dsimp only
    · exact ad.mono (by decide)
    · exact (G.ad.sub (zz G.bb)).mono (by decide)
    · exact ((G.ba.mul k2).sub (G.bb.mul k1)).mono (by decide)
    · exact ((G.ba.mul k3).sub (zz G.bb)).mono (by decide)
    · exact ((zr G.bb).sub da).mono (by decide)
    · exact ((zr G.bd).sub (zz G.bd)).mono (by decide)
    · exact ((zr k2).sub (G.bd.mul k1)).mono (by decide)
    · exact ((zr k3).sub (zz G.bd)).mono (by decide)
    · exact ((k1.mul G.bb).sub (k2.mul G.ba)).mono (by decide)
    · exact ((k1.mul G.bd).sub (zz k2)).mono (by decide)
    · exact ad2.mono (by decide)
    · exact ((k1.mul k3).sub (zz k2)).mono (by decide)
    · exact ((zr G.bb).sub (k3.mul G.ba)).mono (by decide)
    · exact ((zr G.bd).sub (zz k3)).mono (by decide)
    · exact ((zr k2).sub (k3.mul k1)).mono (by decide)
    · exact ((zr k3).sub (zz k3)).mono (by decide)) (by show 700 + 4 * (320 * 1500) ≤ 9000000; decide)
  have ea : dAddA (bsD a b d) (bsD a2 b2 d2) = some (.tuple ([(a, b), (0, d), (a2, b2), (0, d2)].map ptD)) := by
    have z4 : 4 ≤ sizeLine := by decide
    unfold bsD
    rw [ev_addT]
    exact if_pos z4
  have ej : m_joined_lattice [.sh (bsD a b d), .sh (bsD a2 b2 d2)] = some (.sh told2, []) := by
    clear el w1 w2 w3 w4 e5
    generalize bsD a2 b2 d2 = X at *
    generalize bsD a b d = Y at *
    generalize List.map ptD [(a, b), (0, d), (a2, b2), (0, d2)] = Q at *
    exact fn_ret (by
      show s_joined_lattice [.sh (Y), .sh (X)] = _
      simp [s_joined_lattice, ea, e6]
      rfl)
  clear w1 w2 w3 w4 hL hD h hl hc
  generalize List.map ptD [(a, b), (0, d), (a2, b2), (0, d2)] = Q2 at *
  generalize bsD a2 b2 d2 = X at *
  generalize bsD a b d = Y at *
  generalize L.map ptD = Q at *
  refine ⟨d4, fn_io (ρ' := [.ol (is d4), .sh (.list (is ns)), .sh (.tuple (Q)), .sh (Y), .sh (X), .dead, .dead, .dead, .dead, .dead, .dead]) ?_ rfl rfl⟩
  show s__law_bases_right [.ol (is ds), .sh (.list (is ns)), .dead, .dead, .dead, .dead, .dead, .dead, .dead, .dead, .dead] = _
  unfold s__law_bases_right
  refine (seq_nx (ρ1 := [.ol (is d1), .sh (.list (is ns)), .sh (.tuple (Q)), .dead, .dead, .dead, .dead, .dead, .dead, .dead, .dead]) (by simp [e1])).trans ?_
  refine (seq_nx (ρ1 := [.ol (is d1), .sh (.list (is ns)), .sh (.tuple (Q)), .sh (told), .dead, .dead, .dead, .dead, .dead, .dead, .dead]) (by simp [e2])).trans ?_
  refine (seq_nx (if_f (ρ1 := [.ol (is d1), .sh (.list (is ns)), .sh (.tuple (Q)), .sh (told), .dead, .dead, .dead, .dead, .dead, .dead, .dead]) (by simp [e3]))).trans ?_
  refine (seq_nx (ρ1 := [.ol (is dd), .sh (.list (is ns)), .sh (.tuple (Q)), .sh (told), .sh (X), .dead, .dead, .dead, .dead, .dead, .dead]) (by simp [e4])).trans ?_
  refine (seq_nx e5).trans ?_
  refine (seq_nx (if_f (ρ1 := [.ol (is dd), .sh (.list (is ns)), .sh (.tuple (Q)), .sh (Y), .sh (X), .dead, .dead, .dead, .dead, .dead, .dead]) (by simp [ei, ec, s1]))).trans ?_
  refine (seq_nx el).trans ?_
  simp [ej, ea, e7]


/-- a loop that hands back one thing as soon as a test holds -/
theorem loop_any {α : Type} (inj : α → D) (test : α → Bool) (c : Cell) {xs0 : List D} {ks : List Nat} {b : D → En → Option Out} {ρ0 : En} (Q : α → Prop)
    (hy : ∀ y, Q y → test y = true → ∃ ρ', b (inj y) ρ0 = some (.rt c ρ'))
    (hn : ∀ y, Q y → test y = false → ∃ ρ', (b (inj y) ρ0 = some (.nx ρ') ∨ b (inj y) ρ0 = some (.ct ρ')) ∧ killL ks ρ' = ρ0) (ys : List α) (ρ : En) (hq : ∀ y ∈ ys, Q y) (e : killL ks ρ = ρ0) :
    (ys.any test = true → ∃ ρ', loopF none xs0 ks b (ys.map inj) ρ = some (.rt c ρ')) ∧ (ys.any test = false → loopF none xs0 ks b (ys.map inj) ρ = some (.nx ρ0)) := by
  obtain ⟨h1, h2⟩ := loop_find inj test (fun _ => c) (xs0 := xs0) Q hy hn ys ρ hq e
  refine ⟨fun h => ?_, fun h => h2 ?_⟩
  · cases hf : ys.find? test with
    | none =>
      rw [List.find?_eq_none] at hf
      obtain ⟨y, hm, ht⟩ := List.any_eq_true.mp h
      exact absurd ht (hf y hm)
    | some y => exact h1 y hf
  · rw [List.find?_eq_none]
    intro y hm ht
    rw [List.any_eq_true.mpr ⟨y, hm, ht⟩] at h
    cases h

/-! ## patterns -/
structure Pat (R : List (List Nat)) (w h : Nat) : Prop where
  len : R.length = h
  row : ∀ r ∈ R, r.length = w
  h1 : 1 ≤ h
  w1 : 1 ≤ w
  hb : h ≤ 100
  wb : w ≤ 100
  ch : ∀ r ∈ R, ∀ c ∈ r, c < 0x110000
def rwD (r : List Nat) : D := .str (SL r)
def rowsD (R : List (List Nat)) : D := .tuple (R.map rwD)
def sgN (R : List (List Nat)) (w h x y : Nat) : Nat := (R.getD (y % h) []).getD (x % w) 0
def cD (c : Nat) : D := .str (SL [c])
section
variable {R : List (List Nat)} {w h : Nat} (P : Pat R w h)
include P
theorem pat_row (y : Nat) : R.getD (y % h) [] ∈ R := by
  have := Nat.mod_lt y (show 0 < h from P.h1)
  have hl := P.len
  rw [List.getD_eq_getElem?_getD, List.getElem?_eq_getElem (by omega)]
  exact List.getElem_mem _
theorem pat_ix (y : Nat) : dIx (rowsD R) (.int ((y % h : Nat) : Int)) = some (rwD (R.getD (y % h) [])) := by
  have := Nat.mod_lt y (show 0 < h from P.h1)
  have hl := P.len
  show atI (R.map rwD) _ = _
  rw [atI_map, atI_lt (by omega), List.getD_eq_getElem?_getD, List.getElem?_eq_getElem (by omega)]
  rfl
theorem pat_sg (x y : Nat) : dIx (rwD (R.getD (y % h) [])) (.int ((x % w : Nat) : Int)) = some (cD (sgN R w h x y)) := by
  have hx := Nat.mod_lt x (show 0 < w from P.w1)
  have hr := P.row _ (pat_row P y)
  unfold sgN rwD
  generalize R.getD (y % h) [] = r at *
  have hb := P.wb
  rw [dIx_SL (by omega), atI_lt (by omega), List.getD_eq_getElem?_getD, List.getElem?_eq_getElem (by omega)]
  rfl
theorem sg_ch (x y : Nat) : sgN R w h x y < 0x110000 := by
  have hx := Nat.mod_lt x (show 0 < w from P.w1)
  have hm := pat_row P y
  have hr := P.row _ hm
  unfold sgN
  refine P.ch _ hm _ ?_
  generalize R.getD (y % h) [] = r at *
  rw [List.getD_eq_getElem?_getD, List.getElem?_eq_getElem (by omega)]
  exact List.getElem_mem _
theorem pat_0 : dIx (rowsD R) (.int 0) = some (rwD (R.getD 0 [])) := by
  have e := pat_ix P 0
  rw [Nat.zero_mod] at e
  exact e
theorem pat_w : cLen [rwD (R.getD 0 [])] = some (.int (w : Int)) := by
  have hm := pat_row P 0
  rw [Nat.zero_mod] at hm
  have hr := P.row _ hm
  have hb := P.wb
  show (if (SL (R.getD 0 [])).length ≤ sizeLine then some (PyData.int ((SL (R.getD 0 [])).length : Int)) else none) = _
  rw [SL_len, hr, if_pos (by unfold sizeLine; omega)]
theorem pat_h : cLen [rowsD R] = some (.int (h : Int)) := by
  show some (PyData.int ((R.map rwD).length : Int)) = _
  rw [List.length_map, P.len]
theorem v_sign_of (x y : Nat) : m_sign_of [.sh (rowsD R), .sh (.tuple [.int (x : Int), .int (y : Int)])] = some (.sh (cD (sgN R w h x y)), []) := by
  have i1 := pat_ix P y
  have i2 := pat_sg P x y
  have i3 := pat_0 P
  have i4 := pat_w P
  have i5 := pat_h P
  have f1 := fmN x w
  have f2 := fmN y h
  have n1 : (w : Int) ≠ 0 := by have := P.w1; omega
  have n2 : (h : Int) ≠ 0 := by have := P.h1; omega
  clear P
  generalize cD (sgN R w h x y) = C at *
  generalize rwD (R.getD (y % h) []) = A at *
  generalize rwD (R.getD 0 []) = B at *
  generalize rowsD R = Q at *
  generalize ((x % w : Nat) : Int) = X1 at *
  generalize ((y % h : Nat) : Int) = Y1 at *
  generalize (w : Int) = W at *
  generalize (h : Int) = H at *
  generalize (x : Int) = X at *
  generalize (y : Int) = Y at *
  exact fn_ret (by
    show s_sign_of [.sh (Q), .sh (.tuple ([.int X, .int Y])), .dead, .dead] = _
    simp [s_sign_of, i1, i2, i3, i4, i5, f1, f2, n1, n2]
    rfl)
theorem v_lsign (x y : Nat) : m__law_sign [.sh (rowsD R), .sh (.int (x : Int)), .sh (.int (y : Int))] = some (.sh (cD (sgN R w h x y)), []) := by
  have i1 := pat_ix P y
  have i2 := pat_sg P x y
  have i3 := pat_0 P
  have i4 := pat_w P
  have i5 := pat_h P
  have f1 := fmN x w
  have f2 := fmN y h
  have n1 : (w : Int) ≠ 0 := by have := P.w1; omega
  have n2 : (h : Int) ≠ 0 := by have := P.h1; omega
  clear P
  generalize cD (sgN R w h x y) = C at *
  generalize rwD (R.getD (y % h) []) = A at *
  generalize rwD (R.getD 0 []) = B at *
  generalize rowsD R = Q at *
  generalize ((x % w : Nat) : Int) = X1 at *
  generalize ((y % h : Nat) : Int) = Y1 at *
  generalize (w : Int) = W at *
  generalize (h : Int) = H at *
  generalize (x : Int) = X at *
  generalize (y : Int) = Y at *
  exact fn_ret (by
    show s__law_sign [.sh (Q), .sh (.int (X)), .sh (.int (Y))] = _
    simp [s__law_sign, i1, i2, i3, i4, i5, f1, f2, n1, n2]
    rfl)
end
theorem ne_cD {a b : Nat} (ha : a < 0x110000) (hb : b < 0x110000) : bNe (cD a) (cD b) = some (decide (a ≠ b)) := by
  have h := bNe_SL (l := [a]) (m := [b]) (strOk_SL (by simpa using ha)) (strOk_SL (by simpa using hb))
  show bNe (.str (SL [a])) (.str (SL [b])) = _
  rw [h]
  by_cases e : a = b
  · subst e; simp
  · simp [e]
/-! ### moved -/
def dif (R1 : List (List Nat)) (w1 h1 : Nat) (R2 : List (List Nat)) (w2 h2 sx sy x y : Nat) : Bool := decide (sgN R2 w2 h2 (x + sx) (y + sy) ≠ sgN R1 w1 h1 x y)
def mvB (R1 : List (List Nat)) (w1 h1 : Nat) (R2 : List (List Nat)) (w2 h2 wide high sx sy : Nat) : Bool := !(List.range wide).any fun x => (List.range high).any fun y => dif R1 w1 h1 R2 w2 h2 sx sy x y
theorem iR_nI {a : FA} {ρ ρ1 : En} {n : Nat} (h : a ρ = some ([.int (n : Int)], ρ1)) (hn : n ≤ 1000000) : iR1 a ρ = some ((List.range n).map nI, ρ1) := by
  refine (ev_r1 (n := (n : Int)) h (by omega) (by omega)).trans ?_
  rw [Int.toNat_natCast]; rfl
section
variable {R1 R2 : List (List Nat)} {w1 h1 w2 h2 : Nat} (P1 : Pat R1 w1 h1) (P2 : Pat R2 w2 h2) {wide high sx sy : Nat} (hw : wide ≤ 100000) (hh : high ≤ 100000)
include P1 P2 hw hh
theorem v_moved : m_is_moved_by [.sh (rowsD R1), .sh (rowsD R2), .sh (.tuple [.int (sx : Int), .int (sy : Int)]), .sh (.int (wide : Int)), .sh (.int (high : Int))] = some (.sh (.bool (mvB R1 w1 h1 R2 w2 h2 wide high sx sy)), []) := by
  have key : ∀ x y : Nat, b_is_moved_by_1 [.sh (rowsD R1), .sh (rowsD R2), .sh (.tuple ([.int (sx : Int), .int (sy : Int)])), .sh (.int ((wide : Int))), .sh (.int ((high : Int))), .sh (.int ((x : Int))), .sh (.int ((y : Int)))] = (if dif R1 w1 h1 R2 w2 h2 sx sy x y = true then some (.rt (.sh (.bool false)) [.sh (rowsD R1), .sh (rowsD R2), .sh (.tuple ([.int (sx : Int), .int (sy : Int)])), .sh (.int ((wide : Int))), .sh (.int ((high : Int))), .sh (.int ((x : Int))), .sh (.int ((y : Int)))]) else some (.nx [.sh (rowsD R1), .sh (rowsD R2), .sh (.tuple ([.int (sx : Int), .int (sy : Int)])), .sh (.int ((wide : Int))), .sh (.int ((high : Int))), .sh (.int ((x : Int))), .sh (.int ((y : Int)))])) := fun x y => by
    have e1 := v_sign_of P1 x y
    have e2 := v_sign_of P2 (x + sx) (y + sy)
    have e3 := ne_cD (sg_ch P2 (x + sx) (y + sy)) (sg_ch P1 x y)
    have e4 : decide (sgN R2 w2 h2 (x + sx) (y + sy) ≠ sgN R1 w1 h1 x y) = dif R1 w1 h1 R2 w2 h2 sx sy x y := rfl
    rw [e4] at e3
    rw [show ((x + sx : Nat) : Int) = (x : Int) + (sx : Int) by omega, show ((y + sy : Nat) : Int) = (y : Int) + (sy : Int) by omega] at e2
    have z2 : 2 ≤ sizeLine := by decide
    clear P1 P2 hw hh e4
    generalize dif R1 w1 h1 R2 w2 h2 sx sy x y = t at *
    generalize cD (sgN R1 w1 h1 x y) = C1 at *
    generalize cD (sgN R2 w2 h2 (x + sx) (y + sy)) = C2 at *
    generalize rowsD R1 = Q1 at *
    generalize rowsD R2 = Q2 at *
    cases t <;> simp [b_is_moved_by_1, e1, e2, e3, z2]
  have inner : ∀ x : Nat, ((List.range high).any (dif R1 w1 h1 R2 w2 h2 sx sy x) = true → ∃ ρ', l_is_moved_by_1 [.sh (rowsD R1), .sh (rowsD R2), .sh (.tuple ([.int (sx : Int), .int (sy : Int)])), .sh (.int ((wide : Int))), .sh (.int ((high : Int))), .sh (.int ((x : Int))), .dead] = some (.rt (.sh (.bool false)) ρ')) ∧
      ((List.range high).any (dif R1 w1 h1 R2 w2 h2 sx sy x) = false → l_is_moved_by_1 [.sh (rowsD R1), .sh (rowsD R2), .sh (.tuple ([.int (sx : Int), .int (sy : Int)])), .sh (.int ((wide : Int))), .sh (.int ((high : Int))), .sh (.int ((x : Int))), .dead] = some (.nx [.sh (rowsD R1), .sh (rowsD R2), .sh (.tuple ([.int (sx : Int), .int (sy : Int)])), .sh (.int ((wide : Int))), .sh (.int ((high : Int))), .sh (.int ((x : Int))), .dead])) := fun x => by
    have A := loop_any nI (dif R1 w1 h1 R2 w2 h2 sx sy x) (.sh (.bool false)) (xs0 := (List.range high).map nI) (ks := [6]) (b := fun x ρ => (gNm 6 x ρ).bind b_is_moved_by_1) (ρ0 := [.sh (rowsD R1), .sh (rowsD R2), .sh (.tuple ([.int (sx : Int), .int (sy : Int)])), .sh (.int ((wide : Int))), .sh (.int ((high : Int))), .sh (.int ((x : Int))), .dead]) (fun _ => True)
      (fun y _ ht => ⟨_, bind_gnm.trans ((key x y).trans (if_pos ht))⟩) (fun y _ ht => ⟨[.sh (rowsD R1), .sh (rowsD R2), .sh (.tuple ([.int (sx : Int), .int (sy : Int)])), .sh (.int ((wide : Int))), .sh (.int ((high : Int))), .sh (.int ((x : Int))), .sh (.int ((y : Int)))], .inl (bind_gnm.trans ((key x y).trans (if_neg (by rw [ht]; decide)))), rfl⟩) (List.range high) [.sh (rowsD R1), .sh (rowsD R2), .sh (.tuple ([.int (sx : Int), .int (sy : Int)])), .sh (.int ((wide : Int))), .sh (.int ((high : Int))), .sh (.int ((x : Int))), .dead] (fun _ _ => trivial) rfl
    have hi := iR_nI (a := aCons (eVar 4) aNil) (ρ := [.sh (rowsD R1), .sh (rowsD R2), .sh (.tuple ([.int (sx : Int), .int (sy : Int)])), .sh (.int ((wide : Int))), .sh (.int ((high : Int))), .sh (.int ((x : Int))), .dead]) (n := high) rfl (by omega)
    exact ⟨fun h => by
      obtain ⟨ρ', e⟩ := A.1 h
      exact ⟨ρ', for_hx ll_is_moved_by_1 hi e⟩, fun h => for_hx ll_is_moved_by_1 hi (A.2 h)⟩
  have A := loop_any nI (fun x => (List.range high).any (dif R1 w1 h1 R2 w2 h2 sx sy x)) (.sh (.bool false)) (xs0 := (List.range wide).map nI) (ks := [5, 6]) (b := fun x ρ => (gNm 5 x ρ).bind b_is_moved_by_2) (ρ0 := [.sh (rowsD R1), .sh (rowsD R2), .sh (.tuple ([.int (sx : Int), .int (sy : Int)])), .sh (.int ((wide : Int))), .sh (.int ((high : Int))), .dead, .dead]) (fun _ => True)
      (fun x _ ht => by
        obtain ⟨ρ', e⟩ := (inner x).1 ht
        exact ⟨ρ', bind_gnm.trans e⟩) (fun x _ ht => ⟨[.sh (rowsD R1), .sh (rowsD R2), .sh (.tuple ([.int (sx : Int), .int (sy : Int)])), .sh (.int ((wide : Int))), .sh (.int ((high : Int))), .sh (.int ((x : Int))), .dead], .inl (bind_gnm.trans ((inner x).2 ht)), rfl⟩) (List.range wide) [.sh (rowsD R1), .sh (rowsD R2), .sh (.tuple ([.int (sx : Int), .int (sy : Int)])), .sh (.int ((wide : Int))), .sh (.int ((high : Int))), .dead, .dead] (fun _ _ => trivial) rfl
  have hi := iR_nI (a := aCons (eVar 3) aNil) (ρ := [.sh (rowsD R1), .sh (rowsD R2), .sh (.tuple ([.int (sx : Int), .int (sy : Int)])), .sh (.int ((wide : Int))), .sh (.int ((high : Int))), .dead, .dead]) (n := wide) rfl (by omega)
  unfold mvB
  cases ht : (List.range wide).any fun x => (List.range high).any fun y => dif R1 w1 h1 R2 w2 h2 sx sy x y with
  | true =>
    obtain ⟨ρ', e⟩ := A.1 ht
    have el := for_hx ll_is_moved_by_2 hi e
    clear A inner key e hi
    generalize rowsD R1 = Q1 at *
    generalize rowsD R2 = Q2 at *
    exact fn_ret (ρ' := ρ') (by
      show s_is_moved_by [.sh (Q1), .sh (Q2), .sh (.tuple ([.int (sx : Int), .int (sy : Int)])), .sh (.int ((wide : Int))), .sh (.int ((high : Int))), .dead, .dead] = _
      exact seq_rt el)
  | false =>
    have el := for_hx ll_is_moved_by_2 hi (A.2 ht)
    clear A inner key
    generalize rowsD R1 = Q1 at *
    generalize rowsD R2 = Q2 at *
    exact fn_ret (by
      show s_is_moved_by [.sh (Q1), .sh (Q2), .sh (.tuple ([.int (sx : Int), .int (sy : Int)])), .sh (.int ((wide : Int))), .sh (.int ((high : Int))), .dead, .dead] = _
      exact (seq_nx el).trans rfl)
theorem v_carried : m__law_carried [.sh (rowsD R1), .sh (rowsD R2), .sh (.tuple [.int (sx : Int), .int (sy : Int)]), .sh (.int (wide : Int)), .sh (.int (high : Int))] = some (.sh (.bool (mvB R1 w1 h1 R2 w2 h2 wide high sx sy)), []) := by
  have key : ∀ x y : Nat, b__law_carried_1 [.sh (rowsD R1), .sh (rowsD R2), .sh (.tuple ([.int (sx : Int), .int (sy : Int)])), .sh (.int ((wide : Int))), .sh (.int ((high : Int))), .sh (.int ((x : Int))), .sh (.int ((y : Int)))] = (if dif R1 w1 h1 R2 w2 h2 sx sy x y = true then some (.rt (.sh (.bool false)) [.sh (rowsD R1), .sh (rowsD R2), .sh (.tuple ([.int (sx : Int), .int (sy : Int)])), .sh (.int ((wide : Int))), .sh (.int ((high : Int))), .sh (.int ((x : Int))), .sh (.int ((y : Int)))]) else some (.nx [.sh (rowsD R1), .sh (rowsD R2), .sh (.tuple ([.int (sx : Int), .int (sy : Int)])), .sh (.int ((wide : Int))), .sh (.int ((high : Int))), .sh (.int ((x : Int))), .sh (.int ((y : Int)))])) := fun x y => by
    have e1 := v_lsign P1 x y
    have e2 := v_lsign P2 (x + sx) (y + sy)
    have e3 := ne_cD (sg_ch P1 x y) (sg_ch P2 (x + sx) (y + sy))
    have e4 : decide (sgN R1 w1 h1 x y ≠ sgN R2 w2 h2 (x + sx) (y + sy)) = dif R1 w1 h1 R2 w2 h2 sx sy x y := by
      unfold dif
      exact decide_eq_decide.mpr ⟨fun h => Ne.symm h, fun h => Ne.symm h⟩
    rw [e4] at e3
    rw [show ((x + sx : Nat) : Int) = (x : Int) + (sx : Int) by omega, show ((y + sy : Nat) : Int) = (y : Int) + (sy : Int) by omega] at e2
    clear P1 P2 hw hh e4
    generalize dif R1 w1 h1 R2 w2 h2 sx sy x y = t at *
    generalize cD (sgN R1 w1 h1 x y) = C1 at *
    generalize cD (sgN R2 w2 h2 (x + sx) (y + sy)) = C2 at *
    generalize rowsD R1 = Q1 at *
    generalize rowsD R2 = Q2 at *
    cases t <;> simp [b__law_carried_1, e1, e2, e3]
  have inner : ∀ x : Nat, ((List.range high).any (dif R1 w1 h1 R2 w2 h2 sx sy x) = true → ∃ ρ', l__law_carried_1 [.sh (rowsD R1), .sh (rowsD R2), .sh (.tuple ([.int (sx : Int), .int (sy : Int)])), .sh (.int ((wide : Int))), .sh (.int ((high : Int))), .sh (.int ((x : Int))), .dead] = some (.rt (.sh (.bool false)) ρ')) ∧
      ((List.range high).any (dif R1 w1 h1 R2 w2 h2 sx sy x) = false → l__law_carried_1 [.sh (rowsD R1), .sh (rowsD R2), .sh (.tuple ([.int (sx : Int), .int (sy : Int)])), .sh (.int ((wide : Int))), .sh (.int ((high : Int))), .sh (.int ((x : Int))), .dead] = some (.nx [.sh (rowsD R1), .sh (rowsD R2), .sh (.tuple ([.int (sx : Int), .int (sy : Int)])), .sh (.int ((wide : Int))), .sh (.int ((high : Int))), .sh (.int ((x : Int))), .dead])) := fun x => by
    have A := loop_any nI (dif R1 w1 h1 R2 w2 h2 sx sy x) (.sh (.bool false)) (xs0 := (List.range high).map nI) (ks := [6]) (b := fun x ρ => (gNm 6 x ρ).bind b__law_carried_1) (ρ0 := [.sh (rowsD R1), .sh (rowsD R2), .sh (.tuple ([.int (sx : Int), .int (sy : Int)])), .sh (.int ((wide : Int))), .sh (.int ((high : Int))), .sh (.int ((x : Int))), .dead]) (fun _ => True)
      (fun y _ ht => ⟨_, bind_gnm.trans ((key x y).trans (if_pos ht))⟩) (fun y _ ht => ⟨[.sh (rowsD R1), .sh (rowsD R2), .sh (.tuple ([.int (sx : Int), .int (sy : Int)])), .sh (.int ((wide : Int))), .sh (.int ((high : Int))), .sh (.int ((x : Int))), .sh (.int ((y : Int)))], .inl (bind_gnm.trans ((key x y).trans (if_neg (by rw [ht]; decide)))), rfl⟩) (List.range high) [.sh (rowsD R1), .sh (rowsD R2), .sh (.tuple ([.int (sx : Int), .int (sy : Int)])), .sh (.int ((wide : Int))), .sh (.int ((high : Int))), .sh (.int ((x : Int))), .dead] (fun _ _ => trivial) rfl
    have hi := iR_nI (a := aCons (eVar 4) aNil) (ρ := [.sh (rowsD R1), .sh (rowsD R2), .sh (.tuple ([.int (sx : Int), .int (sy : Int)])), .sh (.int ((wide : Int))), .sh (.int ((high : Int))), .sh (.int ((x : Int))), .dead]) (n := high) rfl (by omega)
    exact ⟨fun h => by
      obtain ⟨ρ', e⟩ := A.1 h
      exact ⟨ρ', for_hx ll__law_carried_1 hi e⟩, fun h => for_hx ll__law_carried_1 hi (A.2 h)⟩
  have A := loop_any nI (fun x => (List.range high).any (dif R1 w1 h1 R2 w2 h2 sx sy x)) (.sh (.bool false)) (xs0 := (List.range wide).map nI) (ks := [5, 6]) (b := fun x ρ => (gNm 5 x ρ).bind b__law_carried_2) (ρ0 := [.sh (rowsD R1), .sh (rowsD R2), .sh (.tuple ([.int (sx : Int), .int (sy : Int)])), .sh (.int ((wide : Int))), .sh (.int ((high : Int))), .dead, .dead]) (fun _ => True)
      (fun x _ ht => by
        obtain ⟨ρ', e⟩ := (inner x).1 ht
        exact ⟨ρ', bind_gnm.trans e⟩) (fun x _ ht => ⟨[.sh (rowsD R1), .sh (rowsD R2), .sh (.tuple ([.int (sx : Int), .int (sy : Int)])), .sh (.int ((wide : Int))), .sh (.int ((high : Int))), .sh (.int ((x : Int))), .dead], .inl (bind_gnm.trans ((inner x).2 ht)), rfl⟩) (List.range wide) [.sh (rowsD R1), .sh (rowsD R2), .sh (.tuple ([.int (sx : Int), .int (sy : Int)])), .sh (.int ((wide : Int))), .sh (.int ((high : Int))), .dead, .dead] (fun _ _ => trivial) rfl
  have hi := iR_nI (a := aCons (eVar 3) aNil) (ρ := [.sh (rowsD R1), .sh (rowsD R2), .sh (.tuple ([.int (sx : Int), .int (sy : Int)])), .sh (.int ((wide : Int))), .sh (.int ((high : Int))), .dead, .dead]) (n := wide) rfl (by omega)
  unfold mvB
  cases ht : (List.range wide).any fun x => (List.range high).any fun y => dif R1 w1 h1 R2 w2 h2 sx sy x y with
  | true =>
    obtain ⟨ρ', e⟩ := A.1 ht
    have el := for_hx ll__law_carried_2 hi e
    clear A inner key e hi
    generalize rowsD R1 = Q1 at *
    generalize rowsD R2 = Q2 at *
    exact fn_ret (ρ' := ρ') (by
      show s__law_carried [.sh (Q1), .sh (Q2), .sh (.tuple ([.int (sx : Int), .int (sy : Int)])), .sh (.int ((wide : Int))), .sh (.int ((high : Int))), .dead, .dead] = _
      exact seq_rt el)
  | false =>
    have el := for_hx ll__law_carried_2 hi (A.2 ht)
    clear A inner key
    generalize rowsD R1 = Q1 at *
    generalize rowsD R2 = Q2 at *
    exact fn_ret (by
      show s__law_carried [.sh (Q1), .sh (Q2), .sh (.tuple ([.int (sx : Int), .int (sy : Int)])), .sh (.int ((wide : Int))), .sh (.int ((high : Int))), .dead, .dead] = _
      exact (seq_nx el).trans rfl)
end


/-! ## the steps of a pattern -/
theorem sgN_mod (R : List (List Nat)) (w h x y : Nat) : sgN R w h (x % w) (y % h) = sgN R w h x y := by
  unfold sgN
  rw [Nat.mod_mod, Nat.mod_mod]
def sgZ (R : List (List Nat)) (w h : Nat) (X Y : Int) : Nat := sgN R w h (X % (w : Int)).toNat (Y % (h : Int)).toNat
theorem sgZ_N (R : List (List Nat)) (w h x y : Nat) : sgZ R w h (x : Int) (y : Int) = sgN R w h x y := by
  unfold sgZ
  rw [show ((x : Int) % (w : Int)).toNat = x % w by rw [← Int.natCast_emod]; omega, show ((y : Int) % (h : Int)).toNat = y % h by rw [← Int.natCast_emod]; omega, sgN_mod]
theorem toN_add {w : Nat} (hw : 1 ≤ w) (X : Int) (x : Nat) : ((X + (x : Int)) % (w : Int)).toNat = ((X % (w : Int)).toNat + x) % w := by
  have h0 := Int.emod_nonneg X (show (w : Int) ≠ 0 by omega)
  have e : (((X % (w : Int)).toNat + x) % w : Nat) = (((X % (w : Int)).toNat + x : Nat) : Int) % (w : Int) := by rw [Int.natCast_emod]
  have e2 : (((X % (w : Int)).toNat + x : Nat) : Int) = X % (w : Int) + (x : Int) := by omega
  rw [e2, Int.emod_add_emod] at e
  omega
def Per (R : List (List Nat)) (w h : Nat) (v : Pt) : Prop := ∀ X Y : Int, sgZ R w h (X + v.1) (Y + v.2) = sgZ R w h X Y
theorem per_sub (R : List (List Nat)) (w h : Nat) : Sub (Per R w h) where
  z := fun X Y => by simp
  s := fun u v hu hv X Y => by
    have h1 := hu (X - v.1) (Y - v.2)
    have h2 := hv (X - v.1) (Y - v.2)
    rw [show X - v.1 + v.1 = X by omega, show Y - v.2 + v.2 = Y by omega] at h2
    simp only
    rw [show X + (u.1 - v.1) = X - v.1 + u.1 by omega, show Y + (u.2 - v.2) = Y - v.2 + u.2 by omega, h1, h2]
section
variable {R : List (List Nat)} {w h : Nat} (P : Pat R w h)
include P
theorem mv_iff {x y : Nat} : mvB R w h R w h w h x y = true ↔ Per R w h ((x : Int), (y : Int)) := by
  have w1 := P.w1
  have h1 := P.h1
  unfold mvB
  rw [Bool.not_eq_true', List.any_eq_false]
  constructor
  · intro k X Y
    have X0 := Int.emod_nonneg X (show (w : Int) ≠ 0 by omega)
    have X1 := Int.emod_lt_of_pos X (show (0 : Int) < w by omega)
    have Y0 := Int.emod_nonneg Y (show (h : Int) ≠ 0 by omega)
    have Y1 := Int.emod_lt_of_pos Y (show (0 : Int) < h by omega)
    have q := k (X % (w : Int)).toNat (List.mem_range.mpr (by omega))
    rw [Bool.not_eq_true, List.any_eq_false] at q
    have q := q (Y % (h : Int)).toNat (List.mem_range.mpr (by omega))
    unfold dif at q
    rw [decide_eq_true_eq] at q
    have q : sgN R w h ((X % (w : Int)).toNat + x) ((Y % (h : Int)).toNat + y) = sgN R w h (X % (w : Int)).toNat (Y % (h : Int)).toNat := Classical.not_not.mp q
    unfold sgZ
    simp only
    rw [toN_add w1, toN_add h1, sgN_mod]
    exact q
  · intro k x' _
    rw [Bool.not_eq_true, List.any_eq_false]
    intro y' _
    have q := k (x' : Int) (y' : Int)
    simp only at q
    rw [show (x' : Int) + (x : Int) = ((x' + x : Nat) : Int) by omega, show (y' : Int) + (y : Int) = ((y' + y : Nat) : Int) by omega, sgZ_N, sgZ_N] at q
    unfold dif
    rw [decide_eq_true_eq]
    exact fun n => n q
theorem per_w : Per R w h ((w : Int), 0) := fun X Y => by unfold sgZ; simp only; rw [Int.add_emod_right, Int.add_zero]
theorem per_h : Per R w h (0, (h : Int)) := fun X Y => by unfold sgZ; simp only; rw [Int.add_emod_right, Int.add_zero]
end
def mvs (R : List (List Nat)) (w h x : Nat) : List Pt := ((List.range h).filter fun y => mvB R w h R w h w h x y).map fun y : Nat => ((x : Int), (y : Int))
def stL (R : List (List Nat)) (w h : Nat) : List Pt := [((w : Int), 0), (0, (h : Int))] ++ (List.range w).flatMap (mvs R w h)
theorem stL_mem {R : List (List Nat)} {w h : Nat} {t : Pt} (ht : t ∈ stL R w h) : t = ((w : Int), 0) ∨ t = (0, (h : Int)) ∨ ∃ x y : Nat, x < w ∧ y < h ∧ mvB R w h R w h w h x y = true ∧ t = ((x : Int), (y : Int)) := by
  unfold stL at ht
  rcases List.mem_append.mp ht with ht | ht
  · rcases List.mem_cons.mp ht with e | ht
    · exact .inl e
    · exact .inr (.inl (List.mem_singleton.mp ht))
  · obtain ⟨x, hx, ht⟩ := List.mem_flatMap.mp ht
    unfold mvs at ht
    obtain ⟨y, hy, rfl⟩ := List.mem_map.mp ht
    obtain ⟨h1, h2⟩ := List.mem_filter.mp hy
    exact .inr (.inr ⟨x, y, List.mem_range.mp hx, List.mem_range.mp h1, h2, rfl⟩)
section
variable {R : List (List Nat)} {w h : Nat} (P : Pat R w h)
include P
theorem per_all : ∀ t ∈ stL R w h, Per R w h t := fun t ht => by
  rcases stL_mem ht with rfl | rfl | ⟨x, y, _, _, hm, rfl⟩
  · exact per_w P
  · exact per_h P
  · exact (mv_iff P).mp hm
theorem stL_small : ∀ t ∈ stL R w h, 0 ≤ t.1 ∧ t.1 ≤ 100 ∧ 0 ≤ t.2 ∧ t.2 ≤ 100 := fun t ht => by
  have := P.wb
  have := P.hb
  rcases stL_mem ht with rfl | rfl | ⟨x, y, _, _, hm, rfl⟩ <;> dsimp only <;> omega
theorem mvs_len (x : Nat) : (mvs R w h x).length ≤ h := by
  unfold mvs
  rw [List.length_map]
  have := List.length_filter_le (fun y => mvB R w h R w h w h x y) (List.range h)
  rwa [List.length_range] at this
theorem w_srow {xs0 : List D} {A : List Pt} {x : Nat} (hA : A.length ≤ 100000) : 
    loopF none xs0 [5] (fun x ρ => (gNm 5 x ρ).bind b_steps_of_1) ((List.range h).map nI) [.sh (rowsD R), .sh (.int ((h : Int))), .sh (.int ((w : Int))), .ol ((A.map ptD)), .sh (.int ((x : Int))), .dead] = some (.nx [.sh (rowsD R), .sh (.int ((h : Int))), .sh (.int ((w : Int))), .ol (((A ++ mvs R w h x).map ptD)), .sh (.int ((x : Int))), .dead]) := by
  have hb := P.hb
  have wb := P.wb
  have L := loop_acc nI (fun acc => [.sh (rowsD R), .sh (.int ((h : Int))), .sh (.int ((w : Int))), .ol (acc), .sh (.int ((x : Int))), .dead]) (fun y => mvB R w h R w h w h x y) (fun y : Nat => ptD ((x : Int), (y : Int))) (xs0 := xs0) (ks := [5]) (b := fun x ρ => (gNm 5 x ρ).bind b_steps_of_1) 1000000 (fun _ => True) (fun y acc _ hl => by
    have e := v_moved P P (wide := w) (high := h) (sx := x) (sy := y) (by omega) (by omega)
    refine ⟨[.sh (rowsD R), .sh (.int ((h : Int))), .sh (.int ((w : Int))), .ol ((if mvB R w h R w h w h x y = true then acc ++ [ptD ((x : Int), (y : Int))] else acc)), .sh (.int ((x : Int))), .sh (.int ((y : Int)))], .inl (bind_gnm.trans ?_), rfl⟩
    show b_steps_of_1 [.sh (rowsD R), .sh (.int ((h : Int))), .sh (.int ((w : Int))), .ol (acc), .sh (.int ((x : Int))), .sh (.int ((y : Int)))] = _
    have z2 : 2 ≤ sizeLine := by decide
    have hz : acc.length < sizeLine := by unfold sizeLine; omega
    have ep : ptD ((x : Int), (y : Int)) = .tuple [.int (x : Int), .int (y : Int)] := rfl
    rw [ep]
    clear P hb wb ep
    generalize mvB R w h R w h w h x y = t at *
    generalize rowsD R = Q at *
    cases t <;> simp [b_steps_of_1, e, z2, lAppend, hz]) (List.range h) (A.map ptD) [.sh (rowsD R), .sh (.int ((h : Int))), .sh (.int ((w : Int))), .ol ((A.map ptD)), .sh (.int ((x : Int))), .dead] (fun _ _ => trivial) (by rw [List.length_map, List.length_range]; omega) rfl
  rw [L]
  unfold mvs
  rw [List.map_append, List.map_map]
  rfl
theorem w_sall {xs0 : List D} : ∀ (xs : List Nat) (A : List Pt) (u4 : Cell), A.length + xs.length * 100 ≤ 100000 → 
    loopF none xs0 [4, 5] (fun x ρ => (gNm 4 x ρ).bind b_steps_of_2) (xs.map nI) [.sh (rowsD R), .sh (.int ((h : Int))), .sh (.int ((w : Int))), .ol ((A.map ptD)), u4, .dead] = some (.nx [.sh (rowsD R), .sh (.int ((h : Int))), .sh (.int ((w : Int))), .ol (((A ++ xs.flatMap (mvs R w h)).map ptD)), .dead, .dead]) := by
  have hb := P.hb
  intro xs
  induction xs with
  | nil => intro A u4 _; rw [List.flatMap_nil, List.append_nil]; exact loop_nil rfl
  | cons x r ih =>
    intro A u4 hA
    rw [List.length_cons] at hA
    have hm := mvs_len P x
    have e := ih (A ++ mvs R w h x) (.sh (nI x)) (by rw [List.length_append]; omega)
    rw [List.append_assoc] at e
    rw [List.map_cons, List.flatMap_cons]
    refine (loop_cons rfl (bind_gnm.trans ?_)).trans e
    show l_steps_of_1 [.sh (rowsD R), .sh (.int ((h : Int))), .sh (.int ((w : Int))), .ol ((A.map ptD)), .sh (.int ((x : Int))), .dead] = _
    exact for_hx ll_steps_of_1 (iR_nI rfl (by omega)) (w_srow P (by omega))
theorem v_steps_of (hwh : w * h ≤ 500) : ∃ a b d, Bas (stL R w h) a b d ∧ 1 ≤ a ∧ 0 ≤ b ∧ b < d ∧ m_steps_of [.sh (rowsD R)] = some (.sh (bsD a b d), []) := by
  have hb := P.hb
  have wb := P.wb
  have w1 := P.w1
  have h1 := P.h1
  have hlen : (stL R w h).length ≤ 502 := by
    unfold stL
    rw [List.length_append, List.length_flatMap]
    have : ((List.range w).map fun x => (mvs R w h x).length).sum ≤ w * h := by
      have key : ∀ xs : List Nat, (xs.map fun x => (mvs R w h x).length).sum ≤ xs.length * h := fun xs => by
        induction xs with
        | nil => simp
        | cons x r ih =>
          rw [List.map_cons, List.sum_cons, List.length_cons, Nat.succ_mul]
          have := mvs_len P x
          omega
      have k := key (List.range w)
      rwa [List.length_range] at k
    simp only [List.length_cons, List.length_nil]
    omega
  have bnd : ∀ {z : Int}, 0 ≤ z → z ≤ 100 → Bd 10 z := fun h0 h1 => by unfold Bd; show _ < 1024; omega
  have e0 : m_base_of [.sh (.tuple ((stL R w h).map ptD))] = m_base_of [.sh (.tuple ((stL R w h).map ptD))] := rfl
  have el : l_steps_of_2 [.sh (rowsD R), .sh (.int ((h : Int))), .sh (.int ((w : Int))), .ol (([((w : Int), 0), (0, (h : Int))].map ptD)), .dead, .dead] = some (.nx [.sh (rowsD R), .sh (.int ((h : Int))), .sh (.int ((w : Int))), .ol (((stL R w h).map ptD)), .dead, .dead]) :=
    for_hx ll_steps_of_2 (iR_nI rfl (by omega)) (w_sall P (List.range w) [((w : Int), 0), (0, (h : Int))] .dead (by rw [List.length_range]; simp only [List.length_cons, List.length_nil]; omega))
  have fin : ∀ told, m_base_of [.sh (.tuple ((stL R w h).map ptD))] = some (.sh told, []) → m_steps_of [.sh (rowsD R)] = some (.sh told, []) := fun told e => by
    have i3 := pat_0 P
    have i4 := pat_w P
    have i5 := pat_h P
    have z2 : 2 ≤ sizeLine := by decide
    have em : [((w : Int), (0 : Int)), (0, (h : Int))].map ptD = [.tuple [.int (w : Int), .int 0], .tuple [.int 0, .int (h : Int)]] := rfl
    rw [em] at el
    clear P e0 hlen em
    generalize (stL R w h).map ptD = S at *
    generalize rwD (R.getD 0 []) = A at *
    generalize rowsD R = Q at *
    exact fn_ret (by
      show s_steps_of [.sh (Q), .dead, .dead, .dead, .dead, .dead] = _
      unfold s_steps_of
      refine (seq_nx (ρ1 := [.sh (Q), .sh (.int ((h : Int))), .sh (.int ((w : Int))), .dead, .dead, .dead]) (by simp [i3, i4, i5])).trans ?_
      refine (seq_nx (ρ1 := [.sh (Q), .sh (.int ((h : Int))), .sh (.int ((w : Int))), .ol ([.tuple [.int (w : Int), .int 0], .tuple [.int 0, .int (h : Int)]]), .dead, .dead]) (by simp [z2])).trans ?_
      refine (seq_nx el).trans ?_
      simp [e]
      rfl)
  have sm := stL_small P
  rcases v_base (n := 10) (L := stL R w h) (by decide) (fun t ht => by
    obtain ⟨q1, q2, q3, q4⟩ := sm t ht
    exact ⟨bnd q1 q2, (bnd q3 q4).mono (by decide)⟩) (by omega) with ⟨⟨a, b, d, H, h0⟩, _⟩ | ⟨a, b, d, H, q1, q2, q3, e⟩
  · exfalso
    have hi := bas_idx H
    rw [h0] at hi
    have hd := dvd_idx.mp (Int.dvd_refl (idx (stL R w h))) ((w : Int), 0) (by unfold stL; simp) (0, (h : Int)) (by unfold stL; simp)
    rw [hi] at hd
    have hz := Int.zero_dvd.mp hd
    unfold det2 at hz
    simp only [Int.mul_zero, Int.zero_mul, Int.sub_zero] at hz
    have := Int.mul_pos (show (0 : Int) < w by omega) (show (0 : Int) < h by omega)
    omega
  · exact ⟨a, b, d, H, q1, q2, q3, fin _ e⟩
theorem v_steps_right (hwh : w * h ≤ 500) : m__law_steps_right [.sh (rowsD R)] = some (.sh (.bool true), []) := by
  obtain ⟨a, b, d, H, ha, hb, hd, e⟩ := v_steps_of P hwh
  have wb := P.wb
  have hhb := P.hb
  have sm := stL_small P
  have bnd : ∀ {z : Int}, 0 ≤ z → z ≤ 100 → Bd 10 z := fun h0 h1 => by unfold Bd; show _ < 1024; omega
  obtain ⟨B1, B2, B3⟩ := bas_bd (B := 30) H ha hb hd (fun s hs t ht => by
    obtain ⟨s1, s2, s3, s4⟩ := sm s hs
    obtain ⟨t1, t2, t3, t4⟩ := sm t ht
    exact (((bnd s1 s2).mul (bnd t3 t4)).sub ((bnd s3 s4).mul (bnd t1 t2))).mono (by decide)) (by decide)
  have has : ∀ {x y : Int}, 0 ≤ x → x ≤ 100 → m__law_has [.sh (bsD a b d), .sh (.tuple [.int x, .int y])] = some (.sh (.bool (hasB a b d x y)), []) := fun {x y} h0 h1 => v_lhas ha (by omega) (B1.mono (by decide)) (B2.mono (by decide)) (B3.mono (by decide)) ((bnd h0 h1).mono (by decide))
  have eq : ∀ x y : Nat, x < w → y < h → hasB a b d (x : Int) (y : Int) = mvB R w h R w h w h x y := fun x y hx hy => by
    rw [Bool.eq_iff_iff, has_iff ha (by omega)]
    constructor
    · intro k
      exact (mv_iff P).mpr ((inL_sub (stL R w h)).spn H.i1 H.i2 k _ (per_sub R w h) (per_all P))
    · intro k
      refine H.all _ ?_
      unfold stL
      refine List.mem_append_right _ (List.mem_flatMap.mpr ⟨x, List.mem_range.mpr hx, ?_⟩)
      unfold mvs
      exact List.mem_map.mpr ⟨y, List.mem_filter.mpr ⟨List.mem_range.mpr hy, k⟩, rfl⟩
  have hw := has (x := (w : Int)) (y := 0) (by omega) (by omega)
  rw [(has_iff ha (by omega)).mpr (H.all ((w : Int), 0) (by unfold stL; simp))] at hw
  have hh := has (x := 0) (y := (h : Int)) (by omega) (by omega)
  rw [(has_iff ha (by omega)).mpr (H.all (0, (h : Int)) (by unfold stL; simp))] at hh
  have eb := v_is_base ha hb hd
  have z2 : 2 ≤ sizeLine := by decide
  have key : ∀ x y : Nat, x < w → y < h → b__law_steps_right_1 [.sh (rowsD R), .sh (.int ((w : Int))), .sh (.int ((h : Int))), .sh (bsD a b d), .sh (.int ((x : Int))), .sh (.int ((y : Int)))] = some (.nx [.sh (rowsD R), .sh (.int ((w : Int))), .sh (.int ((h : Int))), .sh (bsD a b d), .sh (.int ((x : Int))), .sh (.int ((y : Int)))]) := fun x y hx hy => by
    have e1 := has (x := (x : Int)) (y := (y : Int)) (by omega) (by omega)
    have e2 := v_carried P P (wide := w) (high := h) (sx := x) (sy := y) (by omega) (by omega)
    rw [eq x y hx hy] at e1
    clear e hw hh eb has eq P H B1 B2 B3 sm
    generalize mvB R w h R w h w h x y = t at *
    generalize rowsD R = Q at *
    generalize bsD a b d = X at *
    have nf : bNe (.bool false) (.bool false) = some false := ev_neR rfl
    have nt : bNe (.bool true) (.bool true) = some false := ev_neR rfl
    cases t <;> simp [b__law_steps_right_1, e1, e2, z2, nf, nt]
  have l1 : ∀ x : Nat, x < w → l__law_steps_right_1 [.sh (rowsD R), .sh (.int ((w : Int))), .sh (.int ((h : Int))), .sh (bsD a b d), .sh (.int ((x : Int))), .dead] = some (.nx [.sh (rowsD R), .sh (.int ((w : Int))), .sh (.int ((h : Int))), .sh (bsD a b d), .sh (.int ((x : Int))), .dead]) := fun x hx =>
    for_hx ll__law_steps_right_1 (iR_nI (n := h) rfl (by omega)) (loop_same nI _ (ρ0 := [.sh (rowsD R), .sh (.int ((w : Int))), .sh (.int ((h : Int))), .sh (bsD a b d), .sh (.int ((x : Int))), .dead]) (fun y hy => ⟨_, .inl (bind_gnm.trans (key x y hx (List.mem_range.mp hy))), rfl⟩) rfl)
  have l2 : l__law_steps_right_2 [.sh (rowsD R), .sh (.int ((w : Int))), .sh (.int ((h : Int))), .sh (bsD a b d), .dead, .dead] = some (.nx [.sh (rowsD R), .sh (.int ((w : Int))), .sh (.int ((h : Int))), .sh (bsD a b d), .dead, .dead]) :=
    for_hx ll__law_steps_right_2 (iR_nI (n := w) rfl (by omega)) (loop_same nI _ (ρ0 := [.sh (rowsD R), .sh (.int ((w : Int))), .sh (.int ((h : Int))), .sh (bsD a b d), .dead, .dead]) (fun x hx => ⟨[.sh (rowsD R), .sh (.int ((w : Int))), .sh (.int ((h : Int))), .sh (bsD a b d), .sh (.int ((x : Int))), .dead], .inl (bind_gnm.trans (l1 x (List.mem_range.mp hx))), rfl⟩) rfl)
  have i3 := pat_0 P
  have i4 := pat_w P
  have i5 := pat_h P
  clear key l1 has eq P H B1 B2 B3 sm
  generalize rwD (R.getD 0 []) = A at *
  generalize rowsD R = Q at *
  generalize bsD a b d = X at *
  exact fn_ret (by
    show s__law_steps_right [.sh (Q), .dead, .dead, .dead, .dead, .dead] = _
    unfold s__law_steps_right
    refine (seq_nx (ρ1 := [.sh (Q), .sh (.int ((w : Int))), .dead, .dead, .dead, .dead]) (by simp [i3, i4])).trans ?_
    refine (seq_nx (ρ1 := [.sh (Q), .sh (.int ((w : Int))), .sh (.int ((h : Int))), .dead, .dead, .dead]) (by simp [i5])).trans ?_
    refine (seq_nx (ρ1 := [.sh (Q), .sh (.int ((w : Int))), .sh (.int ((h : Int))), .sh (X), .dead, .dead]) (by simp [e])).trans ?_
    refine (seq_nx (if_f (ρ1 := [.sh (Q), .sh (.int ((w : Int))), .sh (.int ((h : Int))), .sh (X), .dead, .dead]) (by simp [eb, hw, hh, z2]))).trans ?_
    exact (seq_nx l2).trans rfl)
end


/-! ## the first place -/
theorem loop_fs {α β : Type} (inj : α → D) (f : α → Option β) (out : β → Cell) {xs0 : List D} {ks : List Nat} {b : D → En → Option Out} {ρ0 : En} (Q : α → Prop)
    (hy : ∀ y z, Q y → f y = some z → ∃ ρ', b (inj y) ρ0 = some (.rt (out z) ρ'))
    (hn : ∀ y, Q y → f y = none → ∃ ρ', (b (inj y) ρ0 = some (.nx ρ') ∨ b (inj y) ρ0 = some (.ct ρ')) ∧ killL ks ρ' = ρ0) :
    ∀ (ys : List α) (ρ : En), (∀ y ∈ ys, Q y) → killL ks ρ = ρ0 →
      (∀ z, ys.findSome? f = some z → ∃ ρ', loopF none xs0 ks b (ys.map inj) ρ = some (.rt (out z) ρ')) ∧
      (ys.findSome? f = none → loopF none xs0 ks b (ys.map inj) ρ = some (.nx ρ0)) := by
  intro ys
  induction ys with
  | nil => intro ρ _ e; exact ⟨fun y h => (by cases h), fun _ => by rw [List.map_nil, loop_nil rfl, e]⟩
  | cons y r ih =>
    intro ρ hq e
    rw [List.findSome?_cons, List.map_cons]
    cases ht : f y with
    | some z =>
      obtain ⟨ρ', h⟩ := hy y z (hq y List.mem_cons_self) ht
      refine ⟨fun z' hz => ?_, fun h => (by cases h)⟩
      cases hz
      exact ⟨ρ', loop_rt rfl (by rw [e]; exact h)⟩
    | none =>
      obtain ⟨ρ', h, h2⟩ := hn y (hq y List.mem_cons_self) ht
      have hh : loopF none xs0 ks b (inj y :: r.map inj) ρ = loopF none xs0 ks b (r.map inj) ρ' := by
        rcases h with h | h
        · exact loop_cons rfl (by rw [e]; exact h)
        · exact loop_cont rfl (by rw [e]; exact h)
      rw [hh]
      exact ih ρ' (fun z hz => hq z (List.mem_cons_of_mem _ hz)) h2
def inn (t : Nat → Nat → Bool) (high x : Nat) : Option (Nat × Nat) := (List.range high).findSome? fun y => if t x y = true then some (x, y) else none
def fnd (t : Nat → Nat → Bool) (wide high : Nat) : Option (Nat × Nat) := (List.range wide).findSome? (inn t high)
def oD : Option (Nat × Nat) → D
  | none => .none
  | some p => .tuple [.int (p.1 : Int), .int (p.2 : Int)]
def pC (p : Nat × Nat) : Cell := .sh (.tuple [.int (p.1 : Int), .int (p.2 : Int)])
theorem fold_or {α β : Type} (f : α → Option β) : ∀ (ys : List α) (o : Option β), ys.foldl (fun o y => o.or (f y)) o = o.or (ys.findSome? f)
  | [], o => by simp
  | y :: r, o => by
    rw [List.foldl_cons, fold_or f r, List.findSome?_cons]
    cases o with
    | some z => simp
    | none => cases f y <;> simp
def lcN (a b : Nat) : Nat := a * b / Nat.gcd a b
theorem lcN_le {a b : Nat} (ha : a ≤ 100) (hb : b ≤ 100) : lcN a b ≤ 10000 := by
  unfold lcN
  have h1 := Nat.div_le_self (a * b) (Nat.gcd a b)
  have h2 := Nat.mul_le_mul ha hb
  omega
section
variable {R1 R2 : List (List Nat)} {w1 h1 w2 h2 : Nat} (P1 : Pat R1 w1 h1) (P2 : Pat R2 w2 h2)
include P1 P2
theorem lc_facts {a b : Nat} (ha : a ≤ 100) (hb : b ≤ 100) (ha1 : 1 ≤ a) : mulOk (a : Int) (b : Int) = true ∧ ((Nat.gcd a b : Nat) : Int) ≠ 0 ∧ Builtin.divisionGoesByPylong ((a : Int) * (b : Int)) ((Nat.gcd a b : Nat) : Int) = false ∧ Int.fdiv ((a : Int) * (b : Int)) ((Nat.gcd a b : Nat) : Int) = (lcN a b : Int) ∧ m_divisor [.sh (.int (a : Int)), .sh (.int (b : Int))] = some (.sh (.int ((Nat.gcd a b : Nat) : Int)), []) ∧ m__law_divisor [.sh (.int (a : Int)), .sh (.int (b : Int))] = some (.sh (.int ((Nat.gcd a b : Nat) : Int)), []) := by
  have hg : 0 < Nat.gcd a b := Nat.gcd_pos_of_pos_left _ ha1
  have hg2 : Nat.gcd a b ≤ a := Nat.le_of_dvd ha1 (Nat.gcd_dvd_left _ _)
  refine ⟨mulOk_l (by omega), by omega, noPyN (n := 10) (by show _ < 1024; omega) (by decide), ?_, v_divisor, ?_⟩
  · have := fdN (a * b) (Nat.gcd a b)
    rw [Int.natCast_mul] at this
    exact this
  · refine v_ldivisor ?_
    rw [Int.natAbs_natCast]
    exact Nat.lt_of_lt_of_le (show b < 2 ^ 10 by show _ < 1024; omega) (two_le (by decide))
theorem v_block_of : m_block_of [.sh (rowsD R1), .sh (rowsD R2)] = some (.sh (.tuple [.int (lcN w1 w2 : Int), .int (lcN h1 h2 : Int)]), []) := by
  obtain ⟨a1, a2, a3, a4, a5, _⟩ := lc_facts P1 P2 P1.wb P2.wb P1.w1
  obtain ⟨b1, b2, b3, b4, b5, _⟩ := lc_facts P1 P2 P1.hb P2.hb P1.h1
  have i3 := pat_0 P1
  have i4 := pat_w P1
  have i5 := pat_h P1
  have j3 := pat_0 P2
  have j4 := pat_w P2
  have j5 := pat_h P2
  have z2 : 2 ≤ sizeLine := by decide
  clear P1 P2
  generalize ((Nat.gcd w1 w2 : Nat) : Int) = g1 at *
  generalize ((Nat.gcd h1 h2 : Nat) : Int) = g2 at *
  generalize rwD (R1.getD 0 []) = A at *
  generalize rwD (R2.getD 0 []) = B at *
  generalize rowsD R1 = Q1 at *
  generalize rowsD R2 = Q2 at *
  exact fn_ret (by
    show s_block_of [.sh (Q1), .sh (Q2), .dead] = _
    simp [s_block_of, i3, i4, i5, j3, j4, j5, a1, a2, a3, a4, a5, b1, b2, b3, b4, b5, z2]
    rfl)
theorem v_same_pattern : m_same_pattern [.sh (rowsD R1), .sh (rowsD R2)] = some (.sh (oD (fnd (fun x y => decide (sgN R1 w1 h1 x y ≠ sgN R2 w2 h2 x y)) (lcN w1 w2) (lcN h1 h2))), []) := by
  have lw := lcN_le P1.wb P2.wb
  have lh := lcN_le P1.hb P2.hb
  have eb := v_block_of P1 P2
  have z2 : 2 ≤ sizeLine := by decide
  obtain ⟨t, ht⟩ : ∃ t : Nat → Nat → Bool, t = fun x y => decide (sgN R1 w1 h1 x y ≠ sgN R2 w2 h2 x y) := ⟨_, rfl⟩
  rw [← ht]
  generalize lcN w1 w2 = wide at *
  generalize lcN h1 h2 = high at *
  have key : ∀ x y : Nat, b_same_pattern_1 [.sh (rowsD R1), .sh (rowsD R2), .sh (.int ((wide : Int))), .sh (.int ((high : Int))), .sh (.int ((x : Int))), .sh (.int ((y : Int)))] = (if t x y = true then some (.rt (pC (x, y)) [.sh (rowsD R1), .sh (rowsD R2), .sh (.int ((wide : Int))), .sh (.int ((high : Int))), .sh (.int ((x : Int))), .sh (.int ((y : Int)))]) else some (.nx [.sh (rowsD R1), .sh (rowsD R2), .sh (.int ((wide : Int))), .sh (.int ((high : Int))), .sh (.int ((x : Int))), .sh (.int ((y : Int)))])) := fun x y => by
    have e1 := v_sign_of P1 x y
    have e2 := v_sign_of P2 x y
    have e3 := ne_cD (sg_ch P1 x y) (sg_ch P2 x y)
    have e4 : decide (sgN R1 w1 h1 x y ≠ sgN R2 w2 h2 x y) = t x y := by rw [ht]
    rw [e4] at e3
    clear P1 P2 e4 ht eb
    unfold pC
    generalize t x y = t at *
    generalize cD (sgN R1 w1 h1 x y) = C1 at *
    generalize cD (sgN R2 w2 h2 x y) = C2 at *
    generalize rowsD R1 = Q1 at *
    generalize rowsD R2 = Q2 at *
    cases t <;> simp [b_same_pattern_1, e1, e2, e3, z2]
  have inner : ∀ x : Nat, (∀ z, inn t high x = some z → ∃ ρ', l_same_pattern_1 [.sh (rowsD R1), .sh (rowsD R2), .sh (.int ((wide : Int))), .sh (.int ((high : Int))), .sh (.int ((x : Int))), .dead] = some (.rt (pC z) ρ')) ∧ (inn t high x = none → l_same_pattern_1 [.sh (rowsD R1), .sh (rowsD R2), .sh (.int ((wide : Int))), .sh (.int ((high : Int))), .sh (.int ((x : Int))), .dead] = some (.nx [.sh (rowsD R1), .sh (rowsD R2), .sh (.int ((wide : Int))), .sh (.int ((high : Int))), .sh (.int ((x : Int))), .dead])) := fun x => by
    have A := loop_fs nI (fun y => if t x y = true then some (x, y) else none) pC (xs0 := (List.range high).map nI) (ks := [5]) (b := fun x ρ => (gNm 5 x ρ).bind b_same_pattern_1) (ρ0 := [.sh (rowsD R1), .sh (rowsD R2), .sh (.int ((wide : Int))), .sh (.int ((high : Int))), .sh (.int ((x : Int))), .dead]) (fun _ => True)
      (fun y z _ hz => by
        by_cases c : t x y = true
        · rw [if_pos c] at hz; cases hz; exact ⟨_, bind_gnm.trans ((key x y).trans (if_pos c))⟩
        · rw [if_neg c] at hz; cases hz) (fun y _ hz => by
        by_cases c : t x y = true
        · rw [if_pos c] at hz; cases hz
        · exact ⟨[.sh (rowsD R1), .sh (rowsD R2), .sh (.int ((wide : Int))), .sh (.int ((high : Int))), .sh (.int ((x : Int))), .sh (.int ((y : Int)))], .inl (bind_gnm.trans ((key x y).trans (if_neg c))), rfl⟩) (List.range high) [.sh (rowsD R1), .sh (rowsD R2), .sh (.int ((wide : Int))), .sh (.int ((high : Int))), .sh (.int ((x : Int))), .dead] (fun _ _ => trivial) rfl
    have hi := iR_nI (a := aCons (eVar 3) aNil) (ρ := [.sh (rowsD R1), .sh (rowsD R2), .sh (.int ((wide : Int))), .sh (.int ((high : Int))), .sh (.int ((x : Int))), .dead]) (n := high) rfl (by omega)
    exact ⟨fun z h => by
      obtain ⟨ρ', e⟩ := A.1 z h
      exact ⟨ρ', for_hx ll_same_pattern_1 hi e⟩, fun h => for_hx ll_same_pattern_1 hi (A.2 h)⟩
  have A := loop_fs nI (inn t high) pC (xs0 := (List.range wide).map nI) (ks := [4, 5]) (b := fun x ρ => (gNm 4 x ρ).bind b_same_pattern_2) (ρ0 := [.sh (rowsD R1), .sh (rowsD R2), .sh (.int ((wide : Int))), .sh (.int ((high : Int))), .dead, .dead]) (fun _ => True)
      (fun x z _ hz => by
        obtain ⟨ρ', e⟩ := (inner x).1 z hz
        exact ⟨ρ', bind_gnm.trans e⟩) (fun x _ hz => ⟨[.sh (rowsD R1), .sh (rowsD R2), .sh (.int ((wide : Int))), .sh (.int ((high : Int))), .sh (.int ((x : Int))), .dead], .inl (bind_gnm.trans ((inner x).2 hz)), rfl⟩) (List.range wide) [.sh (rowsD R1), .sh (rowsD R2), .sh (.int ((wide : Int))), .sh (.int ((high : Int))), .dead, .dead] (fun _ _ => trivial) rfl
  have hi := iR_nI (a := aCons (eVar 2) aNil) (ρ := [.sh (rowsD R1), .sh (rowsD R2), .sh (.int ((wide : Int))), .sh (.int ((high : Int))), .dead, .dead]) (n := wide) rfl (by omega)
  have pre : ∀ o, (sSeq l_same_pattern_2 (sRet (eC .none))) [.sh (rowsD R1), .sh (rowsD R2), .sh (.int ((wide : Int))), .sh (.int ((high : Int))), .dead, .dead] = o → s_same_pattern [.sh (rowsD R1), .sh (rowsD R2), .dead, .dead, .dead, .dead] = o := fun o h => by
    unfold s_same_pattern
    refine (seq_nx (ρ1 := [.sh (rowsD R1), .sh (rowsD R2), .sh (.int ((wide : Int))), .sh (.int ((high : Int))), .dead, .dead]) ?_).trans h
    generalize rowsD R1 = Q1 at *
    generalize rowsD R2 = Q2 at *
    simp [eb]
  unfold fnd
  cases hf : (List.range wide).findSome? (inn t high) with
  | some z =>
    obtain ⟨ρ', e⟩ := A.1 z hf
    have el := for_hx ll_same_pattern_2 hi e
    exact fn_ret (ρ' := ρ') (by
      show s_same_pattern [.sh (rowsD R1), .sh (rowsD R2), .dead, .dead, .dead, .dead] = _
      exact pre _ (seq_rt el))
  | none =>
    have el := for_hx ll_same_pattern_2 hi (A.2 hf)
    exact fn_ret (ρ' := [.sh (rowsD R1), .sh (rowsD R2), .sh (.int ((wide : Int))), .sh (.int ((high : Int))), .dead, .dead]) (by
      show s_same_pattern [.sh (rowsD R1), .sh (rowsD R2), .dead, .dead, .dead, .dead] = _
      exact pre _ ((seq_nx el).trans rfl))
theorem v_moved_alike : m_moved_alike [.sh (rowsD R1), .sh (rowsD R2)] = some (.sh (oD (fnd (mvB R1 w1 h1 R2 w2 h2 (lcN w1 w2) (lcN h1 h2)) w1 h1)), []) := by
  have lw := lcN_le P1.wb P2.wb
  have lh := lcN_le P1.hb P2.hb
  have eb := v_block_of P1 P2
  have z2 : 2 ≤ sizeLine := by decide
  have wb := P1.wb
  have hb := P1.hb
  have i3 := pat_0 P1
  have i4 := pat_w P1
  have i5 := pat_h P1
  generalize lcN w1 w2 = wide at *
  generalize lcN h1 h2 = high at *
  have key : ∀ x y : Nat, b_moved_alike_1 [.sh (rowsD R1), .sh (rowsD R2), .sh (.int ((wide : Int))), .sh (.int ((high : Int))), .sh (.int ((x : Int))), .sh (.int ((y : Int)))] = (if mvB R1 w1 h1 R2 w2 h2 wide high x y = true then some (.rt (pC (x, y)) [.sh (rowsD R1), .sh (rowsD R2), .sh (.int ((wide : Int))), .sh (.int ((high : Int))), .sh (.int ((x : Int))), .sh (.int ((y : Int)))]) else some (.nx [.sh (rowsD R1), .sh (rowsD R2), .sh (.int ((wide : Int))), .sh (.int ((high : Int))), .sh (.int ((x : Int))), .sh (.int ((y : Int)))])) := fun x y => by
    have e1 := v_moved P1 P2 (wide := wide) (high := high) (sx := x) (sy := y) (by omega) (by omega)
    clear P1 P2 eb i3 i4 i5
    unfold pC
    generalize mvB R1 w1 h1 R2 w2 h2 wide high x y = t at *
    generalize rowsD R1 = Q1 at *
    generalize rowsD R2 = Q2 at *
    cases t <;> simp [b_moved_alike_1, e1, z2]
  generalize mvB R1 w1 h1 R2 w2 h2 wide high = t at *
  have inner : ∀ x : Nat, (∀ z, inn t h1 x = some z → ∃ ρ', l_moved_alike_1 [.sh (rowsD R1), .sh (rowsD R2), .sh (.int ((wide : Int))), .sh (.int ((high : Int))), .sh (.int ((x : Int))), .dead] = some (.rt (pC z) ρ')) ∧ (inn t h1 x = none → l_moved_alike_1 [.sh (rowsD R1), .sh (rowsD R2), .sh (.int ((wide : Int))), .sh (.int ((high : Int))), .sh (.int ((x : Int))), .dead] = some (.nx [.sh (rowsD R1), .sh (rowsD R2), .sh (.int ((wide : Int))), .sh (.int ((high : Int))), .sh (.int ((x : Int))), .dead])) := fun x => by
    have A := loop_fs nI (fun y => if t x y = true then some (x, y) else none) pC (xs0 := (List.range h1).map nI) (ks := [5]) (b := fun x ρ => (gNm 5 x ρ).bind b_moved_alike_1) (ρ0 := [.sh (rowsD R1), .sh (rowsD R2), .sh (.int ((wide : Int))), .sh (.int ((high : Int))), .sh (.int ((x : Int))), .dead]) (fun _ => True)
      (fun y z _ hz => by
        by_cases c : t x y = true
        · rw [if_pos c] at hz; cases hz; exact ⟨_, bind_gnm.trans ((key x y).trans (if_pos c))⟩
        · rw [if_neg c] at hz; cases hz) (fun y _ hz => by
        by_cases c : t x y = true
        · rw [if_pos c] at hz; cases hz
        · exact ⟨[.sh (rowsD R1), .sh (rowsD R2), .sh (.int ((wide : Int))), .sh (.int ((high : Int))), .sh (.int ((x : Int))), .sh (.int ((y : Int)))], .inl (bind_gnm.trans ((key x y).trans (if_neg c))), rfl⟩) (List.range h1) [.sh (rowsD R1), .sh (rowsD R2), .sh (.int ((wide : Int))), .sh (.int ((high : Int))), .sh (.int ((x : Int))), .dead] (fun _ _ => trivial) rfl
    have hi := iR_nI (a := aCons (eCB cLen (aCons (eVar 0) (aNil))) aNil) (ρ := [.sh (rowsD R1), .sh (rowsD R2), .sh (.int ((wide : Int))), .sh (.int ((high : Int))), .sh (.int ((x : Int))), .dead]) (ρ1 := [.sh (rowsD R1), .sh (rowsD R2), .sh (.int ((wide : Int))), .sh (.int ((high : Int))), .sh (.int ((x : Int))), .dead]) (n := h1) (by
      clear key A
      generalize rowsD R1 = Q1 at *
      simp [i5]) (by omega)
    exact ⟨fun z h => by
      obtain ⟨ρ', e⟩ := A.1 z h
      exact ⟨ρ', for_hx ll_moved_alike_1 hi e⟩, fun h => for_hx ll_moved_alike_1 hi (A.2 h)⟩
  have A := loop_fs nI (inn t h1) pC (xs0 := (List.range w1).map nI) (ks := [4, 5]) (b := fun x ρ => (gNm 4 x ρ).bind b_moved_alike_2) (ρ0 := [.sh (rowsD R1), .sh (rowsD R2), .sh (.int ((wide : Int))), .sh (.int ((high : Int))), .dead, .dead]) (fun _ => True)
      (fun x z _ hz => by
        obtain ⟨ρ', e⟩ := (inner x).1 z hz
        exact ⟨ρ', bind_gnm.trans e⟩) (fun x _ hz => ⟨[.sh (rowsD R1), .sh (rowsD R2), .sh (.int ((wide : Int))), .sh (.int ((high : Int))), .sh (.int ((x : Int))), .dead], .inl (bind_gnm.trans ((inner x).2 hz)), rfl⟩) (List.range w1) [.sh (rowsD R1), .sh (rowsD R2), .sh (.int ((wide : Int))), .sh (.int ((high : Int))), .dead, .dead] (fun _ _ => trivial) rfl
  have hi := iR_nI (a := aCons (eCB cLen (aCons (eBin dIx (eVar 0) (eC (.int 0))) (aNil))) aNil) (ρ := [.sh (rowsD R1), .sh (rowsD R2), .sh (.int ((wide : Int))), .sh (.int ((high : Int))), .dead, .dead]) (ρ1 := [.sh (rowsD R1), .sh (rowsD R2), .sh (.int ((wide : Int))), .sh (.int ((high : Int))), .dead, .dead]) (n := w1) (by
      clear key A inner
      generalize rwD (R1.getD 0 []) = A at *
      generalize rowsD R1 = Q1 at *
      simp [i3, i4]) (by omega)
  have pre : ∀ o, (sSeq l_moved_alike_2 (sRet (eC .none))) [.sh (rowsD R1), .sh (rowsD R2), .sh (.int ((wide : Int))), .sh (.int ((high : Int))), .dead, .dead] = o → s_moved_alike [.sh (rowsD R1), .sh (rowsD R2), .dead, .dead, .dead, .dead] = o := fun o h => by
    unfold s_moved_alike
    refine (seq_nx (ρ1 := [.sh (rowsD R1), .sh (rowsD R2), .sh (.int ((wide : Int))), .sh (.int ((high : Int))), .dead, .dead]) ?_).trans h
    generalize rowsD R1 = Q1 at *
    generalize rowsD R2 = Q2 at *
    simp [eb]
  unfold fnd
  cases hf : (List.range w1).findSome? (inn t h1) with
  | some z =>
    obtain ⟨ρ', e⟩ := A.1 z hf
    have el := for_hx ll_moved_alike_2 hi e
    exact fn_ret (ρ' := ρ') (by
      show s_moved_alike [.sh (rowsD R1), .sh (rowsD R2), .dead, .dead, .dead, .dead] = _
      exact pre _ (seq_rt el))
  | none =>
    have el := for_hx ll_moved_alike_2 hi (A.2 hf)
    exact fn_ret (ρ' := [.sh (rowsD R1), .sh (rowsD R2), .sh (.int ((wide : Int))), .sh (.int ((high : Int))), .dead, .dead]) (by
      show s_moved_alike [.sh (rowsD R1), .sh (rowsD R2), .dead, .dead, .dead, .dead] = _
      exact pre _ ((seq_nx el).trans rfl))
end


theorem sok_oD (o : Option (Nat × Nat)) : sok 11 (oD o) = true := by cases o <;> simp [oD, sok, soks]
section
variable {R1 R2 : List (List Nat)} {w1 h1 w2 h2 : Nat} (P1 : Pat R1 w1 h1) (P2 : Pat R2 w2 h2)
include P1 P2
theorem v_two_right : m__law_two_right [.sh (rowsD R1), .sh (rowsD R2)] = some (.sh (.bool true), []) := by
  have lw := lcN_le P1.wb P2.wb
  have lh := lcN_le P1.hb P2.hb
  have z2 : 2 ≤ sizeLine := by decide
  have wb := P1.wb
  have hb := P1.hb
  have es := v_same_pattern P1 P2
  have em := v_moved_alike P1 P2
  obtain ⟨a1, a2, a3, a4, _, a5⟩ := lc_facts P1 P2 P1.wb P2.wb P1.w1
  obtain ⟨b1, b2, b3, b4, _, b5⟩ := lc_facts P1 P2 P1.hb P2.hb P1.h1
  have i3 := pat_0 P1
  have i4 := pat_w P1
  have i5 := pat_h P1
  have j3 := pat_0 P2
  have j4 := pat_w P2
  have j5 := pat_h P2
  obtain ⟨t, ht⟩ : ∃ t : Nat → Nat → Bool, t = fun x y => decide (sgN R1 w1 h1 x y ≠ sgN R2 w2 h2 x y) := ⟨_, rfl⟩
  rw [← ht] at es
  generalize lcN w1 w2 = wide at *
  generalize lcN h1 h2 = high at *
  have k1 : ∀ (x y : Nat) (o : Option (Nat × Nat)), b__law_two_right_1 [.sh (rowsD R1), .sh (rowsD R2), .sh (.int ((wide : Int))), .sh (.int ((high : Int))), .sh (oD o), .sh (.int ((x : Int))), .sh (.int ((y : Int))), .dead] = some (.nx [.sh (rowsD R1), .sh (rowsD R2), .sh (.int ((wide : Int))), .sh (.int ((high : Int))), .sh (oD (o.or (if t x y = true then some (x, y) else none))), .sh (.int ((x : Int))), .sh (.int ((y : Int))), .dead]) := fun x y o => by
    have e1 := v_lsign P1 x y
    have e2 := v_lsign P2 x y
    have e3 := ne_cD (sg_ch P1 x y) (sg_ch P2 x y)
    have e4 : decide (sgN R1 w1 h1 x y ≠ sgN R2 w2 h2 x y) = t x y := by rw [ht]
    rw [e4] at e3
    clear P1 P2 e4 ht es em i3 i4 i5 j3 j4 j5
    generalize cD (sgN R1 w1 h1 x y) = C1 at *
    generalize cD (sgN R2 w2 h2 x y) = C2 at *
    generalize rowsD R1 = Q1 at *
    generalize rowsD R2 = Q2 at *
    cases o with
    | some z => 
      have hn : isNone (oD (some z)) = false := rfl
      simp only [Option.some_or]
      generalize oD (some z) = Z at *
      simp [b__law_two_right_1, hn]
    | none =>
      have h0 : oD none = .none := rfl
      have h1 : oD (some (x, y)) = .tuple [.int (x : Int), .int (y : Int)] := rfl
      cases hh : t x y <;> simp [b__law_two_right_1, e1, e2, e3, z2, h0, h1, hh]
  have k3 : ∀ (x y : Nat) (o : Option (Nat × Nat)) (u : Cell), b__law_two_right_3 [.sh (rowsD R1), .sh (rowsD R2), .sh (.int ((wide : Int))), .sh (.int ((high : Int))), u, .sh (.int ((x : Int))), .sh (.int ((y : Int))), .sh (oD o)] = some (.nx [.sh (rowsD R1), .sh (rowsD R2), .sh (.int ((wide : Int))), .sh (.int ((high : Int))), u, .sh (.int ((x : Int))), .sh (.int ((y : Int))), .sh (oD (o.or (if mvB R1 w1 h1 R2 w2 h2 wide high x y = true then some (x, y) else none)))]) := fun x y o u => by
    have e1 := v_carried P1 P2 (wide := wide) (high := high) (sx := x) (sy := y) (by omega) (by omega)
    clear P1 P2 ht es em i3 i4 i5 j3 j4 j5 k1
    generalize mvB R1 w1 h1 R2 w2 h2 wide high x y = t at *
    generalize rowsD R1 = Q1 at *
    generalize rowsD R2 = Q2 at *
    cases o with
    | some z => 
      have hn : isNone (oD (some z)) = false := rfl
      simp only [Option.some_or]
      generalize oD (some z) = Z at *
      simp [b__law_two_right_3, hn]
    | none =>
      have h0 : oD none = .none := rfl
      have h1 : oD (some (x, y)) = .tuple [.int (x : Int), .int (y : Int)] := rfl
      cases t <;> simp [b__law_two_right_3, e1, z2, h0, h1]
  generalize mvB R1 w1 h1 R2 w2 h2 wide high = tm at *
  -- the first
  have l1 : ∀ (x : Nat) (o : Option (Nat × Nat)), l__law_two_right_1 [.sh (rowsD R1), .sh (rowsD R2), .sh (.int ((wide : Int))), .sh (.int ((high : Int))), .sh (oD o), .sh (.int ((x : Int))), .dead, .dead] = some (.nx [.sh (rowsD R1), .sh (rowsD R2), .sh (.int ((wide : Int))), .sh (.int ((high : Int))), .sh (oD (o.or (inn t high x))), .sh (.int ((x : Int))), .dead, .dead]) := fun x o => by
    have F := loop_fold nI (fun o : Option (Nat × Nat) => [.sh (rowsD R1), .sh (rowsD R2), .sh (.int ((wide : Int))), .sh (.int ((high : Int))), .sh (oD o), .sh (.int ((x : Int))), .dead, .dead]) (fun (o : Option (Nat × Nat)) (y : Nat) => o.or (if t x y = true then some (x, y) else none)) (xs0 := (List.range high).map nI) (ks := [6]) (b := fun x ρ => (gNm 6 x ρ).bind b__law_two_right_1) (fun _ => True) (fun _ => True)
      (fun y o _ _ => ⟨trivial, _, .inl (bind_gnm.trans (k1 x y o)), rfl⟩) (List.range high) [.sh (rowsD R1), .sh (rowsD R2), .sh (.int ((wide : Int))), .sh (.int ((high : Int))), .sh (oD o), .sh (.int ((x : Int))), .dead, .dead] o (fun _ _ => trivial) trivial rfl
    rw [fold_or] at F
    exact for_hx ll__law_two_right_1 (iR_nI (n := high) rfl (by omega)) F.2
  have l2 : l__law_two_right_2 [.sh (rowsD R1), .sh (rowsD R2), .sh (.int ((wide : Int))), .sh (.int ((high : Int))), .sh (oD none), .dead, .dead, .dead] = some (.nx [.sh (rowsD R1), .sh (rowsD R2), .sh (.int ((wide : Int))), .sh (.int ((high : Int))), .sh (oD (fnd t wide high)), .dead, .dead, .dead]) := by
    have F := loop_fold nI (fun o : Option (Nat × Nat) => [.sh (rowsD R1), .sh (rowsD R2), .sh (.int ((wide : Int))), .sh (.int ((high : Int))), .sh (oD o), .dead, .dead, .dead]) (fun (o : Option (Nat × Nat)) (x : Nat) => o.or (inn t high x)) (xs0 := (List.range wide).map nI) (ks := [5, 6]) (b := fun x ρ => (gNm 5 x ρ).bind b__law_two_right_2) (fun _ => True) (fun _ => True)
      (fun x o _ _ => ⟨trivial, _, .inl (bind_gnm.trans (l1 x o)), rfl⟩) (List.range wide) [.sh (rowsD R1), .sh (rowsD R2), .sh (.int ((wide : Int))), .sh (.int ((high : Int))), .sh (oD none), .dead, .dead, .dead] none (fun _ _ => trivial) trivial rfl
    rw [fold_or] at F
    exact for_hx ll__law_two_right_2 (iR_nI (n := wide) rfl (by omega)) F.2
  have l3 : ∀ (x : Nat) (o : Option (Nat × Nat)) (u : Cell), l__law_two_right_3 [.sh (rowsD R1), .sh (rowsD R2), .sh (.int ((wide : Int))), .sh (.int ((high : Int))), u, .sh (.int ((x : Int))), .dead, .sh (oD o)] = some (.nx [.sh (rowsD R1), .sh (rowsD R2), .sh (.int ((wide : Int))), .sh (.int ((high : Int))), u, .sh (.int ((x : Int))), .dead, .sh (oD (o.or (inn tm h1 x)))]) := fun x o u => by
    have F := loop_fold nI (fun o : Option (Nat × Nat) => [.sh (rowsD R1), .sh (rowsD R2), .sh (.int ((wide : Int))), .sh (.int ((high : Int))), u, .sh (.int ((x : Int))), .dead, .sh (oD o)]) (fun (o : Option (Nat × Nat)) (y : Nat) => o.or (if tm x y = true then some (x, y) else none)) (xs0 := (List.range h1).map nI) (ks := [6]) (b := fun x ρ => (gNm 6 x ρ).bind b__law_two_right_3) (fun _ => True) (fun _ => True)
      (fun y o _ _ => ⟨trivial, _, .inl (bind_gnm.trans (k3 x y o u)), rfl⟩) (List.range h1) [.sh (rowsD R1), .sh (rowsD R2), .sh (.int ((wide : Int))), .sh (.int ((high : Int))), u, .sh (.int ((x : Int))), .dead, .sh (oD o)] o (fun _ _ => trivial) trivial rfl
    rw [fold_or] at F
    refine for_hx ll__law_two_right_3 (iR_nI (n := h1) ?_ (by omega)) F.2
    generalize rowsD R1 = Q1 at *
    simp [i5]
  have l4 : ∀ u : Cell, l__law_two_right_4 [.sh (rowsD R1), .sh (rowsD R2), .sh (.int ((wide : Int))), .sh (.int ((high : Int))), u, .dead, .dead, .sh (oD none)] = some (.nx [.sh (rowsD R1), .sh (rowsD R2), .sh (.int ((wide : Int))), .sh (.int ((high : Int))), u, .dead, .dead, .sh (oD (fnd tm w1 h1))]) := fun u => by
    have F := loop_fold nI (fun o : Option (Nat × Nat) => [.sh (rowsD R1), .sh (rowsD R2), .sh (.int ((wide : Int))), .sh (.int ((high : Int))), u, .dead, .dead, .sh (oD o)]) (fun (o : Option (Nat × Nat)) (x : Nat) => o.or (inn tm h1 x)) (xs0 := (List.range w1).map nI) (ks := [5, 6]) (b := fun x ρ => (gNm 5 x ρ).bind b__law_two_right_4) (fun _ => True) (fun _ => True)
      (fun x o _ _ => ⟨trivial, _, .inl (bind_gnm.trans (l3 x o u)), rfl⟩) (List.range w1) [.sh (rowsD R1), .sh (rowsD R2), .sh (.int ((wide : Int))), .sh (.int ((high : Int))), u, .dead, .dead, .sh (oD none)] none (fun _ _ => trivial) trivial rfl
    rw [fold_or] at F
    refine for_hx ll__law_two_right_4 (iR_nI (n := w1) ?_ (by omega)) F.2
    generalize rwD (R1.getD 0 []) = A at *
    generalize rowsD R1 = Q1 at *
    simp [i3, i4]
  have s1 := e_sameD (sok_oD (fnd t wide high))
  have s2 := e_sameD (sok_oD (fnd tm w1 h1))
  have l4 := l4 (.sh (oD (fnd t wide high)))
  clear k1 k3 l1 l3 ht P1 P2
  have h0 : oD none = .none := rfl
  rw [h0] at l2 l4
  generalize oD (fnd t wide high) = O1 at *
  generalize oD (fnd tm w1 h1) = O2 at *
  generalize ((Nat.gcd w1 w2 : Nat) : Int) = g1 at *
  generalize ((Nat.gcd h1 h2 : Nat) : Int) = g2 at *
  generalize rwD (R1.getD 0 []) = A at *
  generalize rwD (R2.getD 0 []) = B at *
  generalize rowsD R1 = Q1 at *
  generalize rowsD R2 = Q2 at *
  exact fn_ret (by
    show s__law_two_right [.sh (Q1), .sh (Q2), .dead, .dead, .dead, .dead, .dead, .dead] = _
    unfold s__law_two_right
    refine (seq_nx (ρ1 := [.sh (Q1), .sh (Q2), .sh (.int ((wide : Int))), .dead, .dead, .dead, .dead, .dead]) (by simp [i3, i4, j3, j4, a1, a2, a3, a4, a5])).trans ?_
    refine (seq_nx (ρ1 := [.sh (Q1), .sh (Q2), .sh (.int ((wide : Int))), .sh (.int ((high : Int))), .dead, .dead, .dead, .dead]) (by simp [i5, j5, b1, b2, b3, b4, b5])).trans ?_
    refine (seq_nx (ρ1 := [.sh (Q1), .sh (Q2), .sh (.int ((wide : Int))), .sh (.int ((high : Int))), .sh (.none), .dead, .dead, .dead]) rfl).trans ?_
    refine (seq_nx l2).trans ?_
    refine (seq_nx (ρ1 := [.sh (Q1), .sh (Q2), .sh (.int ((wide : Int))), .sh (.int ((high : Int))), .sh (O1), .dead, .dead, .sh (.none)]) rfl).trans ?_
    refine (seq_nx l4).trans ?_
    simp [es, em, s1, s2]
    rfl)
end


/-! ## drawn patterns -/
theorem sg4 {t : Int} (h0 : 0 ≤ t) (h1 : t < 4) : ∃ C : List Nat, atI [PyData.str " A", PyData.str "ab", PyData.str "xy-", PyData.str "OX.#~"] t = some (.str (SL C)) ∧ 1 ≤ C.length ∧ C.length ≤ 5 ∧ ∀ c ∈ C, c < 0x110000 := by
  rcases (show t = 0 ∨ t = 1 ∨ t = 2 ∨ t = 3 by omega) with rfl | rfl | rfl | rfl
  · exact ⟨[32, 65], rfl, by decide, by decide, by decide⟩
  · exact ⟨[97, 98], rfl, by decide, by decide, by decide⟩
  · exact ⟨[120, 121, 45], rfl, by decide, by decide, by decide⟩
  · exact ⟨[79, 88, 46, 35, 126], rfl, by decide, by decide, by decide⟩
theorem ix_C {C : List Nat} (h5 : C.length ≤ 5) (hok : ∀ c ∈ C, c < 0x110000) {t : Int} (h0 : 0 ≤ t) (h1 : t < (C.length : Int)) : ∃ c, c < 0x110000 ∧ dIx (.str (SL C)) (.int t) = some (cD c) := by
  obtain ⟨k, rfl⟩ := Int.eq_ofNat_of_zero_le h0
  have hk : k < C.length := by omega
  refine ⟨C[k], hok _ (List.getElem_mem _), ?_⟩
  rw [dIx_SL (by omega), atI_lt hk]
  rfl
theorem join_cs (cs : List Nat) (h : cs.length ≤ 1000) : sJoin "" [.list (cs.map cD)] = some (.str (SL cs)) := by
  have e := sJoin_SL (cs.map fun c => [c]) (by
    have : (cs.map fun c => [c]).flatten = cs := by induction cs with
      | nil => rfl
      | cons c r ih => rw [List.map_cons, List.flatten_cons, ih (by rw [List.length_cons] at h; omega)]; rfl
    rw [this]; omega)
  have e2 : (cs.map fun c => [c]).flatten = cs := by
    clear e h
    induction cs with
    | nil => rfl
    | cons c r ih => rw [List.map_cons, List.flatten_cons, ih]; rfl
  rw [e2, List.map_map] at e
  exact e
structure Chars (n : Nat) (cs : List Nat) : Prop where
  l : cs.length = n
  ok : ∀ c ∈ cs, c < 0x110000
section
variable {C : List Nat} (hC1 : 1 ≤ C.length) (hC5 : C.length ≤ 5) (hok : ∀ c ∈ C, c < 0x110000)
include hC1 hC5 hok
theorem w_pick {ds : List Int} : ∃ c, c < 0x110000 ∧ dIx (.str (SL C)) (.int (tk ds (C.length : Int))) = some (cD c) := ix_C hC5 hok (tk_nn (by omega)) (tk_lt (by omega))
theorem w_k1 {w : Nat} (hw : w ≤ 100) {u3 u10 : Cell} (ds : List Int) : ∃ (cs : List Nat) (ds' : List Int), Chars w cs ∧ k__law_pattern_1 [.ol (is ds), .sh (.str (SL C)), .sh (.int ((w : Int))), u3, .dead, .dead, .dead, .dead, .dead, .dead, u10, .dead, .dead] = some (.ol (cs.map cD), [.ol (is ds'), .sh (.str (SL C)), .sh (.int ((w : Int))), u3, .dead, .dead, .dead, .dead, .dead, .dead, u10, .dead, .dead]) := by
  rw [kk__law_pattern_1]
  have lC : (SL C).length ≤ sizeLine := by rw [SL_len]; unfold sizeLine; omega
  obtain ⟨ys, ds', h1, h2, h3⟩ := ev_compD (β := Nat) nI cD (fun c => c < 0x110000) (fun ds => [.ol (is ds), .sh (.str (SL C)), .sh (.int ((w : Int))), u3, .dead, .dead, .dead, .dead, .dead, .dead, u10, .dead, .dead]) (vs := [11]) (it := iR1 (aCons (eVar 2) (aNil))) (g := gNm 11) (e := eBin dIx (eVar 1) (eRetD (eCall1 0 0 m__law_take (rIo 0 (rCons (eCB cLen (aCons (eVar 1) (aNil))) (rNil)))))) (ρ := [.ol (is ds), .sh (.str (SL C)), .sh (.int ((w : Int))), u3, .dead, .dead, .dead, .dead, .dead, .dead, u10, .dead, .dead]) (ks := List.range w) (ds := ds) (iR_nI rfl (by omega)) rfl (fun _ => rfl) (fun k ds _ => by
    obtain ⟨c, hc, e⟩ := w_pick hC1 hC5 hok (ds := ds)
    have n0 : (C.length : Int) ≠ 0 := by omega
    refine ⟨c, ds.dropLast, [.ol (is ds), .sh (.str (SL C)), .sh (.int ((w : Int))), u3, .dead, .dead, .dead, .dead, .dead, .dead, u10, .sh (nI k), .dead], [.ol (is ds.dropLast), .sh (.str (SL C)), .sh (.int ((w : Int))), u3, .dead, .dead, .dead, .dead, .dead, .dead, u10, .sh (nI k), .dead], hc, rfl, ?_, rfl⟩
    have el : cLen [.str (SL C)] = some (.int (C.length : Int)) := by
      show (if (SL C).length ≤ sizeLine then some (PyData.int ((SL C).length : Int)) else none) = _
      rw [if_pos lC, SL_len]
    clear hC1 hC5 hok hc lC
    generalize nI k = K at *
    generalize cD c = CC at *
    generalize (C.length : Int) = l at *
    generalize SL C = SC at *
    simp only [ev_bin, ev_var, ev_retD, ev_call1, ev_rio, ev_rcons, ev_rnil, ev_cb, ev_acons, ev_anil, List.getElem?_cons_succ, List.getElem?_cons_zero, Option.bind_some, Option.map_some, el]
    simp [el, n0, e]) (by rw [List.length_range]; unfold sizeLine; omega)
  rw [List.length_range] at h1
  exact ⟨ys, ds', ⟨h1, h2⟩, h3.trans rfl⟩
theorem w_k3 {v2 v3 v5 v6 v7 : Cell} (ds : List Int) : ∃ (cs : List Nat) (ds' : List Int), Chars 9 cs ∧ k__law_pattern_3 [.ol (is ds), .sh (.str (SL C)), v2, v3, .dead, v5, v6, v7, .dead, .dead, .dead, .dead, .dead] = some (.ol (cs.map cD), [.ol (is ds'), .sh (.str (SL C)), v2, v3, .dead, v5, v6, v7, .dead, .dead, .dead, .dead, .dead]) := by
  rw [kk__law_pattern_3]
  have lC : (SL C).length ≤ sizeLine := by rw [SL_len]; unfold sizeLine; omega
  obtain ⟨ys, ds', h1, h2, h3⟩ := ev_compD (β := Nat) nI cD (fun c => c < 0x110000) (fun ds => [.ol (is ds), .sh (.str (SL C)), v2, v3, .dead, v5, v6, v7, .dead, .dead, .dead, .dead, .dead]) (vs := [12]) (it := iR1 (aCons (eC (.int 9)) (aNil))) (g := gNm 12) (e := eBin dIx (eVar 1) (eRetD (eCall1 0 0 m__law_take (rIo 0 (rCons (eCB cLen (aCons (eVar 1) (aNil))) (rNil)))))) (ρ := [.ol (is ds), .sh (.str (SL C)), v2, v3, .dead, v5, v6, v7, .dead, .dead, .dead, .dead, .dead]) (ks := List.range 9) (ds := ds) (iR_nI (n := 9) rfl (by omega)) rfl (fun _ => rfl) (fun k ds _ => by
    obtain ⟨c, hc, e⟩ := w_pick hC1 hC5 hok (ds := ds)
    have n0 : (C.length : Int) ≠ 0 := by omega
    refine ⟨c, ds.dropLast, [.ol (is ds), .sh (.str (SL C)), v2, v3, .dead, v5, v6, v7, .dead, .dead, .dead, .dead, .sh (nI k)], [.ol (is ds.dropLast), .sh (.str (SL C)), v2, v3, .dead, v5, v6, v7, .dead, .dead, .dead, .dead, .sh (nI k)], hc, rfl, ?_, rfl⟩
    have el : cLen [.str (SL C)] = some (.int (C.length : Int)) := by
      show (if (SL C).length ≤ sizeLine then some (PyData.int ((SL C).length : Int)) else none) = _
      rw [if_pos lC, SL_len]
    clear hC1 hC5 hok hc lC
    generalize nI k = K at *
    generalize cD c = CC at *
    generalize (C.length : Int) = l at *
    generalize SL C = SC at *
    simp only [ev_bin, ev_var, ev_retD, ev_call1, ev_rio, ev_rcons, ev_rnil, ev_cb, ev_acons, ev_anil, List.getElem?_cons_succ, List.getElem?_cons_zero, Option.bind_some, Option.map_some, el]
    simp [el, n0, e]) (by rw [List.length_range]; unfold sizeLine; omega)
  rw [List.length_range] at h1
  exact ⟨ys, ds', ⟨h1, h2⟩, h3.trans rfl⟩
theorem w_k2 {w h : Nat} (hw : w ≤ 100) (hh : h ≤ 100) (ds : List Int) : ∃ (R : List (List Nat)) (ds' : List Int), R.length = h ∧ (∀ r ∈ R, Chars w r) ∧ k__law_pattern_2 [.ol (is ds), .sh (.str (SL C)), .sh (.int ((w : Int))), .sh (.int ((h : Int))), .dead, .dead, .dead, .dead, .dead, .dead, .dead, .dead, .dead] = some (.ol (R.map rwD), [.ol (is ds'), .sh (.str (SL C)), .sh (.int ((w : Int))), .sh (.int ((h : Int))), .dead, .dead, .dead, .dead, .dead, .dead, .dead, .dead, .dead]) := by
  rw [kk__law_pattern_2]
  obtain ⟨ys, ds', h1, h2, h3⟩ := ev_compD (β := List Nat) nI rwD (Chars w) (fun ds => [.ol (is ds), .sh (.str (SL C)), .sh (.int ((w : Int))), .sh (.int ((h : Int))), .dead, .dead, .dead, .dead, .dead, .dead, .dead, .dead, .dead]) (vs := [10]) (it := iR1 (aCons (eVar 3) (aNil))) (g := gNm 10) (e := eSM sJoin (eC (.str "")) (aCons (eFrz (k__law_pattern_1)) (aNil))) (ρ := [.ol (is ds), .sh (.str (SL C)), .sh (.int ((w : Int))), .sh (.int ((h : Int))), .dead, .dead, .dead, .dead, .dead, .dead, .dead, .dead, .dead]) (ks := List.range h) (ds := ds) (iR_nI rfl (by omega)) rfl (fun _ => rfl) (fun k ds _ => by
    obtain ⟨cs, ds', hc, e⟩ := w_k1 hC1 hC5 hok hw (u3 := .sh (.int (h : Int))) (u10 := .sh (nI k)) ds
    have ej := join_cs cs (by rw [hc.l]; omega)
    refine ⟨cs, ds', [.ol (is ds), .sh (.str (SL C)), .sh (.int ((w : Int))), .sh (.int ((h : Int))), .dead, .dead, .dead, .dead, .dead, .dead, .sh (nI k), .dead, .dead], [.ol (is ds'), .sh (.str (SL C)), .sh (.int ((w : Int))), .sh (.int ((h : Int))), .dead, .dead, .dead, .dead, .dead, .dead, .sh (nI k), .dead, .dead], hc, rfl, ?_, rfl⟩
    have er : rwD cs = .str (SL cs) := rfl
    rw [er]
    clear hC1 hC5 hok hc er
    generalize nI k = K at *
    generalize cs.map cD = CC at *
    generalize SL C = SC at *
    generalize SL cs = Scs at *
    simp [e, ej]) (by rw [List.length_range]; unfold sizeLine; omega)
  rw [List.length_range] at h1
  exact ⟨ys, ds', h1, h2, h3.trans rfl⟩
end


theorem w_prow {ls : List Nat} (hl : Chars 9 ls) {a d b : Nat} (ha : 1 ≤ a) (ha3 : a ≤ 3) (hd : 1 ≤ d) (hd3 : d ≤ 3) {u0 u1 u2 u3 u9 : Cell} {y : Nat} {xs0 : List D} : ∀ (xs cs : List Nat) (u11 : Cell), (∀ c ∈ cs, c < 0x110000) → cs.length + xs.length ≤ 1000 → (∀ x ∈ xs, x ≤ 1000) → ∃ cs' : List Nat, Chars (cs.length + xs.length) cs' ∧
    loopF none xs0 [11] (fun x ρ => (gNm 11 x ρ).bind b__law_pattern_1) (xs.map nI) [u0, u1, u2, u3, .sh (.str (SL cs)), .sh (.int ((a : Int))), .sh (.int ((d : Int))), .sh (.int ((b : Int))), .sh (.list ((ls.map cD))), u9, .sh (.int ((y : Int))), u11, .dead] = some (.nx [u0, u1, u2, u3, .sh (.str (SL cs')), .sh (.int ((a : Int))), .sh (.int ((d : Int))), .sh (.int ((b : Int))), .sh (.list ((ls.map cD))), u9, .sh (.int ((y : Int))), .dead, .dead]) := by
  intro xs
  induction xs with
  | nil => intro cs u11 hc _ _; exact ⟨cs, ⟨rfl, hc⟩, loop_nil rfl⟩
  | cons x r ih =>
    intro cs u11 hc hn hx
    rw [List.length_cons] at hn
    have x1 := hx x List.mem_cons_self
    have f1 := fmN x a
    have f2 := fdN x a
    have q0 := Int.fmod_nonneg_of_pos ((y : Int) - ((x / a : Nat) : Int) * (b : Int)) (show (0 : Int) < d by omega)
    have q1 := Int.fmod_lt_of_pos ((y : Int) - ((x / a : Nat) : Int) * (b : Int)) (show (0 : Int) < d by omega)
    have m1 := Nat.mod_lt x (show 0 < a by omega)
    obtain ⟨j, hj⟩ : ∃ j : Nat, ((x % a : Nat) : Int) * 3 + ((y : Int) - ((x / a : Nat) : Int) * (b : Int)).fmod (d : Int) = (j : Int) := Int.eq_ofNat_of_zero_le (by omega)
    have hj9 : j < ls.length := by rw [hl.l]; omega
    have ei : atI (ls.map cD) (j : Int) = some (cD ls[j]) := by rw [atI_map, atI_lt hj9]; rfl
    have hcj : ls[j] < 0x110000 := hl.ok _ (List.getElem_mem _)
    obtain ⟨cs', h1, h2⟩ := ih (cs ++ [ls[j]]) (.sh (nI x)) (fun c h => by
      rcases List.mem_append.mp h with h | h
      · exact hc c h
      · rw [List.mem_singleton.mp h]; exact hcj) (by rw [List.length_append, List.length_singleton]; omega) (fun z hz => hx z (List.mem_cons_of_mem _ hz))
    rw [List.length_append, List.length_singleton] at h1
    refine ⟨cs', by rw [List.length_cons, show cs.length + (r.length + 1) = cs.length + 1 + r.length by omega]; exact h1, (loop_cons rfl (bind_gnm.trans ?_)).trans h2⟩
    show b__law_pattern_1 [u0, u1, u2, u3, .sh (.str (SL cs)), .sh (.int ((a : Int))), .sh (.int ((d : Int))), .sh (.int ((b : Int))), .sh (.list ((ls.map cD))), u9, .sh (.int ((y : Int))), .sh (.int ((x : Int))), .dead] = _
    have hp : Builtin.divisionGoesByPylong (x : Int) (a : Int) = false := noPyN (n := 10) (by show _ < 1024; omega) (by decide)
    have k1 : mulOk ((x % a : Nat) : Int) 3 = true := mulOk_l (by omega)
    have k2 : mulOk ((x / a : Nat) : Int) (b : Int) = true := mulOk_l (by have := Nat.div_le_self x a; rw [Int.natAbs_natCast]; omega)
    have n1 : (a : Int) ≠ 0 := by omega
    have n2 : (d : Int) ≠ 0 := by omega
    have ec : cD ls[j] = .str (SL [ls[j]]) := rfl
    rw [ec] at ei
    have es : dAddA (.str (SL cs)) (.str (SL [ls[j]])) = some (.str (SL (cs ++ [ls[j]]))) := by
      rw [ev_addS, SL_len, SL_len, SL_app, if_pos (by rw [List.length_singleton]; unfold sizeLine; omega)]
    clear ih h1 h2 hc hn hx ec q0 q1 m1 hcj hl
    rw [show nI x = PyData.int (x : Int) from rfl]
    generalize ls.map cD = Q at *
    generalize SL (cs ++ [ls[j]]) = S2 at *
    generalize SL [ls[j]] = S1 at *
    generalize SL cs = S0 at *
    generalize ((x % a : Nat) : Int) = xm at *
    generalize ((x / a : Nat) : Int) = xd at *
    generalize (x : Int) = X at *
    generalize (a : Int) = A at *
    generalize (d : Int) = Dd at *
    simp [b__law_pattern_1, f1, f2, hp, k1, k2, n1, n2, hj, ei, es]
theorem w_prows {ls : List Nat} (hl : Chars 9 ls) {a d b W : Nat} (ha : 1 ≤ a) (ha3 : a ≤ 3) (hd : 1 ≤ d) (hd3 : d ≤ 3) (hb : b < d) (hW : W = a * d / Nat.gcd b d) {u0 u1 u2 u3 : Cell} {xs0 : List D} : ∀ (ys : List Nat) (T : List (List Nat)) (u4 u10 : Cell), (∀ r ∈ T, Chars W r) → T.length + ys.length ≤ 100 → ∃ T' : List (List Nat), T'.length = T.length + ys.length ∧ (∀ r ∈ T', Chars W r) ∧
    loopF none xs0 [4, 10, 11] (fun x ρ => (gNm 10 x ρ).bind b__law_pattern_2) (ys.map nI) [u0, u1, u2, u3, u4, .sh (.int ((a : Int))), .sh (.int ((d : Int))), .sh (.int ((b : Int))), .sh (.list ((ls.map cD))), .ol ((T.map rwD)), u10, .dead, .dead] = some (.nx [u0, u1, u2, u3, .dead, .sh (.int ((a : Int))), .sh (.int ((d : Int))), .sh (.int ((b : Int))), .sh (.list ((ls.map cD))), .ol ((T'.map rwD)), .dead, .dead, .dead]) := by
  have hg : 0 < Nat.gcd b d := Nat.gcd_pos_of_pos_right _ hd
  have hg2 : Nat.gcd b d ≤ d := Nat.le_of_dvd hd (Nat.gcd_dvd_right _ _)
  have had : a * d ≤ 9 := by have := Nat.mul_le_mul ha3 hd3; omega
  have hW9 : W ≤ 9 := by rw [hW]; have := Nat.div_le_self (a * d) (Nat.gcd b d); omega
  have ed : m__law_divisor [.sh (.int (b : Int)), .sh (.int (d : Int))] = some (.sh (.int ((Nat.gcd b d : Nat) : Int)), []) := v_ldivisor (by
    rw [Int.natAbs_natCast]
    exact Nat.lt_of_lt_of_le (show d < 2 ^ 10 by show _ < 1024; omega) (two_le (by decide)))
  have ef : Int.fdiv ((a : Int) * (d : Int)) ((Nat.gcd b d : Nat) : Int) = (W : Int) := by
    have := fdN (a * d) (Nat.gcd b d)
    rw [Int.natCast_mul] at this
    rw [hW]
    exact this
  have ep : Builtin.divisionGoesByPylong ((a : Int) * (d : Int)) ((Nat.gcd b d : Nat) : Int) = false := noPyN (n := 10) (by show _ < 1024; omega) (by decide)
  have em : mulOk (a : Int) (d : Int) = true := mulOk_l (by omega)
  have eg : ((Nat.gcd b d : Nat) : Int) ≠ 0 := by omega
  intro ys
  induction ys with
  | nil => intro T u4 u10 hT _; exact ⟨T, rfl, hT, loop_nil rfl⟩
  | cons y r ih =>
    intro T u4 u10 hT hn
    rw [List.length_cons] at hn
    obtain ⟨cs, hc, e1⟩ := w_prow hl (b := b) ha ha3 hd hd3 (u0 := u0) (u1 := u1) (u2 := u2) (u3 := u3) (u9 := .ol (T.map rwD)) (y := y) (xs0 := (List.range W).map nI) (List.range W) [] .dead (fun c h => nomatch h) (by rw [List.length_range, List.length_nil]; omega) (fun x hx => by have := List.mem_range.mp hx; omega)
    rw [List.length_range, List.length_nil, Nat.zero_add] at hc
    obtain ⟨T', h1, h2, h3⟩ := ih (T ++ [cs]) (.sh (.str (SL cs))) (.sh (nI y)) (fun q h => by
      rcases List.mem_append.mp h with h | h
      · exact hT q h
      · rw [List.mem_singleton.mp h]; exact hc) (by rw [List.length_append, List.length_singleton]; omega)
    rw [List.length_append, List.length_singleton] at h1
    refine ⟨T', by rw [h1, List.length_cons]; omega, h2, (loop_cons rfl (bind_gnm.trans ?_)).trans h3⟩
    show b__law_pattern_2 [u0, u1, u2, u3, .dead, .sh (.int ((a : Int))), .sh (.int ((d : Int))), .sh (.int ((b : Int))), .sh (.list ((ls.map cD))), .ol ((T.map rwD)), .sh (.int ((y : Int))), .dead, .dead] = _
    have el : l__law_pattern_1 [u0, u1, u2, u3, .sh (.str ("")), .sh (.int ((a : Int))), .sh (.int ((d : Int))), .sh (.int ((b : Int))), .sh (.list ((ls.map cD))), .ol ((T.map rwD)), .sh (.int ((y : Int))), .dead, .dead] = some (.nx [u0, u1, u2, u3, .sh (.str (SL cs)), .sh (.int ((a : Int))), .sh (.int ((d : Int))), .sh (.int ((b : Int))), .sh (.list ((ls.map cD))), .ol ((T.map rwD)), .sh (.int ((y : Int))), .dead, .dead]) := by
      refine for_hx ll__law_pattern_1 (iR_nI (n := W) ?_ (by omega)) e1
      clear e1 h3 ih
      generalize ls.map cD = Q at *
      generalize T.map rwD = TT at *
      generalize ((Nat.gcd b d : Nat) : Int) = g at *
      generalize (W : Int) = WW at *
      simp [ed, ef, ep, em, eg]
      rfl
    have hz : (T.map rwD).length < sizeLine := by rw [List.length_map]; unfold sizeLine; omega
    rw [List.map_append]
    unfold b__law_pattern_2
    refine (seq_nx (ρ1 := [u0, u1, u2, u3, .sh (.str ("")), .sh (.int ((a : Int))), .sh (.int ((d : Int))), .sh (.int ((b : Int))), .sh (.list ((ls.map cD))), .ol ((T.map rwD)), .sh (.int ((y : Int))), .dead, .dead]) rfl).trans ?_
    refine (seq_nx el).trans ?_
    have er : List.map rwD [cs] = [.str (SL cs)] := rfl
    rw [er]
    clear e1 h3 ih el hT h2 hc
    generalize ls.map cD = Q at *
    generalize T.map rwD = TT at *
    simp [lAppend, hz]
    rfl
theorem v_pattern (ds : List Int) : ∃ (R : List (List Nat)) (w h : Nat) (ds' : List Int), Pat R w h ∧ w ≤ 9 ∧ h ≤ 6 ∧ m__law_pattern [.ol (is ds)] = some (.sh (rowsD R), [.ol (is ds')]) := by
  have t0 := tk_nn (ns := ds) (n := 4) (by decide)
  have t1 := tk_lt (ns := ds) (n := 4) (by decide)
  obtain ⟨C, eSg, hC1, hC5, hok⟩ := sg4 t0 t1
  generalize htk : tk ds 4 = t at *
  generalize hd0 : ds.dropLast = d0
  obtain ⟨w0, hw, hw'⟩ := tkN (ds := d0) (n := 6) (by decide)
  generalize hd1 : d0.dropLast = d1
  obtain ⟨h0, hh, hh'⟩ := tkN (ds := d1) (n := 6) (by decide)
  generalize hd2 : d1.dropLast = d2
  have z4 : 4 ≤ sizeLine := by decide
  have c1 : sSet 1 (eBin dIx (eFrz (eLst (aCons (eC (.str " A")) (aCons (eC (.str "ab")) (aCons (eC (.str "xy-")) (aCons (eC (.str "OX.#~")) (aNil))))))) (eRetD (eCall1 0 0 m__law_take (rIo 0 (rCons (eC (.int 4)) (rNil)))))) [.ol (is ds), .dead, .dead, .dead, .dead, .dead, .dead, .dead, .dead, .dead, .dead, .dead, .dead] = some (.nx [.ol (is d0), .sh (.str (SL C)), .dead, .dead, .dead, .dead, .dead, .dead, .dead, .dead, .dead, .dead, .dead]) := by
    clear hok hC1 hC5
    generalize SL C = SC at *
    simp [htk, hd0, eSg, z4]
  have c2 : sSet 2 (eBin dAddA (eC (.int 1)) (eRetD (eCall1 0 0 m__law_take (rIo 0 (rCons (eC (.int 6)) (rNil)))))) [.ol (is d0), .sh (.str (SL C)), .dead, .dead, .dead, .dead, .dead, .dead, .dead, .dead, .dead, .dead, .dead] = some (.nx [.ol (is d1), .sh (.str (SL C)), .sh (.int (((1 + w0 : Nat) : Int))), .dead, .dead, .dead, .dead, .dead, .dead, .dead, .dead, .dead, .dead]) := by
    rw [show ((1 + w0 : Nat) : Int) = 1 + (w0 : Int) by omega]
    generalize SL C = SC at *
    simp [hw, hd1]
  have c3 : sSet 3 (eBin dAddA (eC (.int 1)) (eRetD (eCall1 0 0 m__law_take (rIo 0 (rCons (eC (.int 6)) (rNil)))))) [.ol (is d1), .sh (.str (SL C)), .sh (.int (((1 + w0 : Nat) : Int))), .dead, .dead, .dead, .dead, .dead, .dead, .dead, .dead, .dead, .dead] = some (.nx [.ol (is d2), .sh (.str (SL C)), .sh (.int (((1 + w0 : Nat) : Int))), .sh (.int (((1 + h0 : Nat) : Int))), .dead, .dead, .dead, .dead, .dead, .dead, .dead, .dead, .dead]) := by
    rw [show ((1 + h0 : Nat) : Int) = 1 + (h0 : Int) by omega]
    generalize SL C = SC at *
    generalize ((1 + w0 : Nat) : Int) = WW at *
    simp [hh, hd2]
  by_cases hk : tk d2 2 = 0
  · generalize hd3 : d2.dropLast = d3
    obtain ⟨R, d4, hl, hr, ek⟩ := w_k2 hC1 hC5 hok (w := 1 + w0) (h := 1 + h0) (by omega) (by omega) d3
    refine ⟨R, 1 + w0, 1 + h0, d4, ⟨hl, fun r h => (hr r h).l, by omega, by omega, by omega, by omega, fun r h => (hr r h).ok⟩, by omega, by omega, fn_io (ρ' := [.ol (is d4), .sh (.str (SL C)), .sh (.int (((1 + w0 : Nat) : Int))), .sh (.int (((1 + h0 : Nat) : Int))), .sh (.list ((R.map rwD))), .dead, .dead, .dead, .dead, .dead, .dead, .dead, .dead]) ?_ rfl rfl⟩
    show s__law_pattern [.ol (is ds), .dead, .dead, .dead, .dead, .dead, .dead, .dead, .dead, .dead, .dead, .dead, .dead] = _
    unfold s__law_pattern
    refine (seq_nx c1).trans ?_
    refine (seq_nx c2).trans ?_
    refine (seq_nx c3).trans ?_
    refine seq_rt ((if_t (ρ1 := [.ol (is d3), .sh (.str (SL C)), .sh (.int (((1 + w0 : Nat) : Int))), .sh (.int (((1 + h0 : Nat) : Int))), .dead, .dead, .dead, .dead, .dead, .dead, .dead, .dead, .dead]) ?_).trans ?_)
    · generalize SL C = SC at *
      generalize ((1 + w0 : Nat) : Int) = WW at *
      generalize ((1 + h0 : Nat) : Int) = HH at *
      simp [hk, hd3]
    · have er : rowsD R = .tuple (R.map rwD) := rfl
      rw [er]
      clear hr hl c1 c2 c3 eSg
      generalize SL C = SC at *
      generalize ((1 + w0 : Nat) : Int) = WW at *
      generalize ((1 + h0 : Nat) : Int) = HH at *
      generalize R.map rwD = RR at *
      simp [ek]
  · generalize hd3 : d2.dropLast = d3
    obtain ⟨a0, ha, ha'⟩ := tkN (ds := d3) (n := 3) (by decide)
    generalize hd4 : d3.dropLast = d4
    obtain ⟨e0, he, he'⟩ := tkN (ds := d4) (n := 3) (by decide)
    generalize hd5 : d4.dropLast = d5
    obtain ⟨b, hb, hb'⟩ := tkN (ds := d5) (n := ((1 + e0 : Nat) : Int)) (by omega)
    generalize hd6 : d5.dropLast = d6
    obtain ⟨ls, d7, hl9, ek⟩ := w_k3 hC1 hC5 hok (v2 := .sh (.int ((1 + w0 : Nat) : Int))) (v3 := .sh (.int ((1 + h0 : Nat) : Int))) (v5 := .sh (.int ((1 + a0 : Nat) : Int))) (v6 := .sh (.int ((1 + e0 : Nat) : Int))) (v7 := .sh (.int (b : Int))) d6
    obtain ⟨T, q1, q2, q3⟩ := w_prows hl9 (a := 1 + a0) (d := 1 + e0) (b := b) (by omega) (by omega) (by omega) (by omega) (by omega) rfl (u0 := .ol (is d7)) (u1 := .sh (.str (SL C))) (u2 := .sh (.int ((1 + w0 : Nat) : Int))) (u3 := .sh (.int ((1 + h0 : Nat) : Int))) (xs0 := (List.range (1 + e0)).map nI) (List.range (1 + e0)) [] .dead .dead (fun r h => nomatch h) (by rw [List.length_range, List.length_nil]; omega)
    rw [List.length_range, List.length_nil, Nat.zero_add] at q1
    have hg : 0 < Nat.gcd b (1 + e0) := Nat.gcd_pos_of_pos_right _ (by omega)
    have hg2 : Nat.gcd b (1 + e0) ≤ 1 + e0 := Nat.le_of_dvd (by omega) (Nat.gcd_dvd_right _ _)
    have had : (1 + a0) * (1 + e0) ≤ 9 := by have := Nat.mul_le_mul (show 1 + a0 ≤ 3 by omega) (show 1 + e0 ≤ 3 by omega); omega
    have hW9 := Nat.div_le_self ((1 + a0) * (1 + e0)) (Nat.gcd b (1 + e0))
    have hW1 : 1 ≤ (1 + a0) * (1 + e0) / Nat.gcd b (1 + e0) := by
      refine (Nat.one_le_div_iff hg).mpr ?_
      have := Nat.mul_le_mul_right (1 + e0) (show 1 ≤ 1 + a0 by omega)
      omega
    generalize (1 + a0) * (1 + e0) / Nat.gcd b (1 + e0) = W at *
    have el : l__law_pattern_2 [.ol (is d7), .sh (.str (SL C)), .sh (.int (((1 + w0 : Nat) : Int))), .sh (.int (((1 + h0 : Nat) : Int))), .dead, .sh (.int (((1 + a0 : Nat) : Int))), .sh (.int (((1 + e0 : Nat) : Int))), .sh (.int ((b : Int))), .sh (.list ((ls.map cD))), .ol ([]), .dead, .dead, .dead] = some (.nx [.ol (is d7), .sh (.str (SL C)), .sh (.int (((1 + w0 : Nat) : Int))), .sh (.int (((1 + h0 : Nat) : Int))), .dead, .sh (.int (((1 + a0 : Nat) : Int))), .sh (.int (((1 + e0 : Nat) : Int))), .sh (.int ((b : Int))), .sh (.list ((ls.map cD))), .ol ((T.map rwD)), .dead, .dead, .dead]) :=
      for_hx ll__law_pattern_2 (iR_nI (n := 1 + e0) rfl (by omega)) q3
    refine ⟨T, W, 1 + e0, d7, ⟨q1, fun r h => (q2 r h).l, by omega, hW1, by omega, by omega, fun r h => (q2 r h).ok⟩, by omega, by omega, fn_io (ρ' := [.ol (is d7), .sh (.str (SL C)), .sh (.int (((1 + w0 : Nat) : Int))), .sh (.int (((1 + h0 : Nat) : Int))), .dead, .sh (.int (((1 + a0 : Nat) : Int))), .sh (.int (((1 + e0 : Nat) : Int))), .sh (.int ((b : Int))), .sh (.list ((ls.map cD))), .sh (.list ((T.map rwD))), .dead, .dead, .dead]) ?_ rfl rfl⟩
    show s__law_pattern [.ol (is ds), .dead, .dead, .dead, .dead, .dead, .dead, .dead, .dead, .dead, .dead, .dead, .dead] = _
    unfold s__law_pattern
    refine (seq_nx c1).trans ?_
    refine (seq_nx c2).trans ?_
    refine (seq_nx c3).trans ?_
    have ea : ((1 + a0 : Nat) : Int) = 1 + (a0 : Int) := by omega
    have ee : ((1 + e0 : Nat) : Int) = 1 + (e0 : Int) := by omega
    have n0 : ((1 + e0 : Nat) : Int) ≠ 0 := by omega
    clear c1 c2 c3 eSg hl9 q1 q2 q3 hok
    have er : rowsD T = .tuple (T.map rwD) := rfl
    rw [er]
    generalize SL C = SC at *
    generalize ((1 + w0 : Nat) : Int) = WW at *
    generalize ((1 + h0 : Nat) : Int) = HH at *
    generalize ls.map cD = LL at *
    generalize T.map rwD = TT at *
    refine (seq_nx (if_f (ρ1 := [.ol (is d3), .sh (.str (SC)), .sh (.int (WW)), .sh (.int (HH)), .dead, .dead, .dead, .dead, .dead, .dead, .dead, .dead, .dead]) ?_)).trans ?_
    · simp [hk, hd3]
    refine (seq_nx (ρ1 := [.ol (is d4), .sh (.str (SC)), .sh (.int (WW)), .sh (.int (HH)), .dead, .sh (.int (((1 + a0 : Nat) : Int))), .dead, .dead, .dead, .dead, .dead, .dead, .dead]) ?_).trans ?_
    · rw [ea]; simp [ha, hd4]
    generalize ((1 + a0 : Nat) : Int) = AA at *
    refine (seq_nx (ρ1 := [.ol (is d5), .sh (.str (SC)), .sh (.int (WW)), .sh (.int (HH)), .dead, .sh (.int (AA)), .sh (.int (((1 + e0 : Nat) : Int))), .dead, .dead, .dead, .dead, .dead, .dead]) ?_).trans ?_
    · rw [ee]; simp [he, hd5]
    generalize ((1 + e0 : Nat) : Int) = EE at *
    refine (seq_nx (ρ1 := [.ol (is d6), .sh (.str (SC)), .sh (.int (WW)), .sh (.int (HH)), .dead, .sh (.int (AA)), .sh (.int (EE)), .sh (.int ((b : Int))), .dead, .dead, .dead, .dead, .dead]) ?_).trans ?_
    · simp [hb, hd6, n0]
    refine (seq_nx (ρ1 := [.ol (is d7), .sh (.str (SC)), .sh (.int (WW)), .sh (.int (HH)), .dead, .sh (.int (AA)), .sh (.int (EE)), .sh (.int ((b : Int))), .sh (.list (LL)), .dead, .dead, .dead, .dead]) ?_).trans ?_
    · simp [ek]
    refine (seq_nx (ρ1 := [.ol (is d7), .sh (.str (SC)), .sh (.int (WW)), .sh (.int (HH)), .dead, .sh (.int (AA)), .sh (.int (EE)), .sh (.int ((b : Int))), .sh (.list (LL)), .ol ([]), .dead, .dead, .dead]) (by simp)).trans ?_
    refine (seq_nx el).trans ?_
    simp


structure Rws (T : List (List Nat)) (w h : Nat) : Prop where
  len : T.length = h
  row : ∀ r ∈ T, Chars w r
theorem pat_rws {R : List (List Nat)} {w h : Nat} (P : Pat R w h) : Rws R w h := ⟨P.len, fun r hr => ⟨P.row r hr, P.ch r hr⟩⟩
theorem rws_pat {R : List (List Nat)} {w h : Nat} (P : Rws R w h) (w1 : 1 ≤ w) (h1 : 1 ≤ h) (wb : w ≤ 100) (hb : h ≤ 100) : Pat R w h := ⟨P.len, fun r hr => (P.row r hr).l, h1, w1, hb, wb, fun r hr => (P.row r hr).ok⟩
theorem chars_app {m n : Nat} {a b : List Nat} (ha : Chars m a) (hb : Chars n b) : Chars (m + n) (a ++ b) := ⟨by rw [List.length_append, ha.l, hb.l], fun c hc => by
  rcases List.mem_append.mp hc with h | h
  · exact ha.ok c h
  · exact hb.ok c h⟩
theorem chars_drop {n : Nat} {a : List Nat} (ha : Chars n a) (x : Nat) : Chars (n - x) (a.drop x) := ⟨by rw [List.length_drop, ha.l], fun c hc => ha.ok c (List.mem_of_mem_drop hc)⟩
theorem chars_take {n : Nat} {a : List Nat} (ha : Chars n a) {x : Nat} (hx : x ≤ n) : Chars x (a.take x) := ⟨by rw [List.length_take, ha.l]; omega, fun c hc => ha.ok c (List.mem_of_mem_take hc)⟩
theorem chars_rep {n : Nat} {a : List Nat} (ha : Chars n a) : ∀ k : Nat, Chars (k * n) (List.replicate k a).flatten
  | 0 => ⟨by simp, fun c hc => by simp at hc⟩
  | k + 1 => by
    rw [List.replicate_succ, List.flatten_cons, Nat.succ_mul, Nat.add_comm]
    exact chars_app ha (chars_rep ha k)
def turnR (x : Nat) (r : List Nat) : List Nat := r.drop x ++ r.take x
theorem chars_turn {n x : Nat} {a : List Nat} (ha : Chars n a) (hx : x ≤ n) : Chars n (turnR x a) := by
  have h := chars_app (chars_drop ha x) (chars_take ha hx)
  rwa [show n - x + x = n by omega] at h
theorem sl_from {r : List Nat} (hr : r.length ≤ 1000) (x : Nat) : dSl (rwD r) (some (x : Int)) none = some (rwD (r.drop x)) := by
  unfold rwD
  rw [dSl_s, SL_len, if_pos (by unfold sizeLine; omega), SL_cut, cutL_from (by omega), Int.toNat_natCast]
theorem sl_to {r : List Nat} (hr : r.length ≤ 1000) (x : Nat) : dSl (rwD r) none (some (x : Int)) = some (rwD (r.take x)) := by
  unfold rwD
  rw [dSl_s, SL_len, if_pos (by unfold sizeLine; omega), SL_cut, cutL_to (by omega), Int.toNat_natCast]
theorem add_rw {a b : List Nat} (h : a.length + b.length ≤ 100000) : dAddA (rwD a) (rwD b) = some (rwD (a ++ b)) := by
  unfold rwD
  rw [ev_addS, SL_len, SL_len, SL_app, if_pos (by unfold sizeLine; omega)]
theorem w_s1 {R : List (List Nat)} {w h : Nat} (P : Pat R w h) {x y : Nat} (hx : x ≤ w) (hy : y ≤ h) (ds : List Int) : ∃ T, Rws T w h ∧ k__law_second_1 [.ol (is ds), .sh (rowsD R), .sh (.int ((x : Int))), .sh (.int ((y : Int))), .dead, .dead, .dead, .dead, .dead, .dead] = some (.ol (T.map rwD), [.ol (is ds), .sh (rowsD R), .sh (.int ((x : Int))), .sh (.int ((y : Int))), .dead, .dead, .dead, .dead, .dead, .dead]) := by
  have hl := P.len
  have hb := P.hb
  have wb := P.wb
  refine ⟨(R.drop y ++ R.take y).map (turnR x), ⟨by rw [List.length_map, List.length_append, List.length_drop, List.length_take]; omega, fun r hr => ?_⟩, ?_⟩
  · obtain ⟨q, hq, rfl⟩ := List.mem_map.mp hr
    have hm : q ∈ R := by
      rcases List.mem_append.mp hq with h | h
      · exact List.mem_of_mem_drop h
      · exact List.mem_of_mem_take h
    exact chars_turn ((pat_rws P).row q hm) hx
  rw [kk__law_second_1, List.map_map]
  have e0 : dSl (rowsD R) (some (y : Int)) none = some (.tuple ((R.drop y).map rwD)) := by
    show some (PyData.tuple (cutL (R.map rwD) (some (y : Int)) none)) = _
    rw [cutL_map, cutL_from (by omega), Int.toNat_natCast]
  have e1 : dSl (rowsD R) none (some (y : Int)) = some (.tuple ((R.take y).map rwD)) := by
    show some (PyData.tuple (cutL (R.map rwD) none (some (y : Int)))) = _
    rw [cutL_map, cutL_to (by omega), Int.toNat_natCast]
  have e2 : dAddA (.tuple ((R.drop y).map rwD)) (.tuple ((R.take y).map rwD)) = some (.tuple ((R.drop y ++ R.take y).map rwD)) := by
    rw [ev_addT, List.map_append, List.length_map, List.length_map, List.length_drop, List.length_take, if_pos (by unfold sizeLine; omega)]
  refine (ev_compA rwD (rwD ∘ turnR x) (R.drop y ++ R.take y) (ρi := [.ol (is ds), .sh (rowsD R), .sh (.int ((x : Int))), .sh (.int ((y : Int))), .dead, .dead, .dead, .dead, .dead, .dead]) ?_ rfl (by rw [List.length_append, List.length_drop, List.length_take]; unfold sizeLine; omega) ?_).trans rfl
  · clear P hl
    generalize rowsD R = Q at *
    generalize (R.drop y ++ R.take y).map rwD = S at *
    generalize (R.drop y).map rwD = S1 at *
    generalize (R.take y).map rwD = S2 at *
    simp [e0, e1, e2]
  · intro r hr
    have hm : r ∈ R := by
      rcases List.mem_append.mp hr with h | h
      · exact List.mem_of_mem_drop h
      · exact List.mem_of_mem_take h
    have hrl := P.row r hm
    have f0 := sl_from (r := r) (by omega) x
    have f1 := sl_to (r := r) (by omega) x
    have f2 := add_rw (a := r.drop x) (b := r.take x) (by rw [List.length_drop, List.length_take]; omega)
    refine ⟨[.ol (is ds), .sh (rowsD R), .sh (.int ((x : Int))), .sh (.int ((y : Int))), .dead, .dead, .dead, .dead, .dead, .sh (rwD r)], [.ol (is ds), .sh (rowsD R), .sh (.int ((x : Int))), .sh (.int ((y : Int))), .dead, .dead, .dead, .dead, .dead, .sh (rwD r)], rfl, ?_, rfl⟩
    have er : (rwD ∘ turnR x) r = rwD (r.drop x ++ r.take x) := rfl
    rw [er]
    clear P hl e0 e1 e2 hr hm hrl er
    generalize rowsD R = Q at *
    generalize rwD (r.drop x ++ r.take x) = S at *
    generalize rwD (r.drop x) = S1 at *
    generalize rwD (r.take x) = S2 at *
    generalize rwD r = S3 at *
    simp [f0, f1, f2]
theorem bin_v {g : D → D → Option D} {i j : Nat} {ρ : En} {d e r : D} (hi : ρ[i]? = some (.sh d)) (hj : ρ[j]? = some (.sh e)) (h : g d e = some r) : eBin g (eVar i) (eVar j) ρ = some (r, ρ) := by
  simp [hi, hj, h]
theorem rep_ok2 {n k : Nat} (hn : n ≤ 100) (hk : k ≤ 2) : repOk n (k : Int) = true := by
  have h := Nat.mul_le_mul hn hk
  exact repOk_ok (by omega) (by omega) (by rw [Int.toNat_natCast]; omega)
theorem mul_str {x : Str} {k : Int} (h : repOk x.length k = true) : dMulA (.str x) (.int k) = some (.str (Txt.mul x k)) := by
  rw [ev_mulAS, if_pos h]
theorem mul_rw {r : List Nat} {k : Nat} (hr : r.length ≤ 100) (hk : k ≤ 2) : dMulA (rwD r) (.int (k : Int)) = some (rwD (List.replicate k r).flatten) := by
  have h : repOk (SL r).length (k : Int) = true := by rw [SL_len]; exact rep_ok2 hr hk
  have e := mul_str h
  rw [mul_SL r (by omega), Int.toNat_natCast] at e
  exact e
theorem w_s2 {T : List (List Nat)} {w h : Nat} (P : Rws T w h) (hw : w ≤ 100) (hh : h ≤ 100) {times : Nat} (ht : times ≤ 2) {v1 v2 v3 : Cell} (ds : List Int) : Rws (T.map fun r => (List.replicate times r).flatten) (times * w) h ∧ k__law_second_2 [.ol (is ds), v1, v2, v3, .ol ((T.map rwD)), .sh (.int ((times : Int))), .dead, .dead, .dead, .dead] = some (.ol ((T.map fun r => (List.replicate times r).flatten).map rwD), [.ol (is ds), v1, v2, v3, .sh (.list ((T.map rwD))), .sh (.int ((times : Int))), .dead, .dead, .dead, .dead]) := by
  refine ⟨⟨by rw [List.length_map, P.len], fun r hr => ?_⟩, ?_⟩
  · obtain ⟨q, hq, rfl⟩ := List.mem_map.mp hr
    exact chars_rep (P.row q hq) times
  rw [kk__law_second_2, List.map_map]
  have hl := P.len
  refine (ev_compA rwD (rwD ∘ fun r => (List.replicate times r).flatten) T (ρi := [.ol (is ds), v1, v2, v3, .sh (.list ((T.map rwD))), .sh (.int ((times : Int))), .dead, .dead, .dead, .dead]) rfl rfl (by unfold sizeLine; omega) ?_).trans rfl
  intro r hr
  have hrl := (P.row r hr).l
  have f := mul_rw (r := r) (k := times) (by omega) ht
  refine ⟨[.ol (is ds), v1, v2, v3, .sh (.list ((T.map rwD))), .sh (.int ((times : Int))), .dead, .dead, .dead, .sh (rwD r)], [.ol (is ds), v1, v2, v3, .sh (.list ((T.map rwD))), .sh (.int ((times : Int))), .dead, .dead, .dead, .sh (rwD r)], rfl, ?_, rfl⟩
  have er : (rwD ∘ fun r => (List.replicate times r).flatten) r = rwD (List.replicate times r).flatten := rfl
  rw [er]
  clear P hr hrl er hl
  generalize T.map rwD = TT at *
  generalize rwD (List.replicate times r).flatten = S at *
  generalize rwD r = S3 at *
  exact bin_v rfl rfl f
theorem rws_rep {T : List (List Nat)} {w h : Nat} (P : Rws T w h) : ∀ k : Nat, Rws (List.replicate k T).flatten w (k * h)
  | 0 => ⟨by simp, fun c hc => by simp at hc⟩
  | k + 1 => by
    rw [List.replicate_succ, List.flatten_cons]
    have q := rws_rep P k
    exact ⟨by rw [List.length_append, P.len, q.len, Nat.succ_mul]; omega, fun r hr => by
      rcases List.mem_append.mp hr with h | h
      · exact P.row r h
      · exact q.row r h⟩
theorem map_rep (T : List (List Nat)) : ∀ k : Nat, (List.replicate k (T.map rwD)).flatten = (List.replicate k T).flatten.map rwD
  | 0 => by simp
  | k + 1 => by rw [List.replicate_succ, List.flatten_cons, map_rep T k, List.replicate_succ, List.flatten_cons, List.map_append]
theorem rws_set {T : List (List Nat)} {w h : Nat} (P : Rws T w h) {i : Nat} {r : List Nat} (hr : Chars w r) : Rws (T.set i r) w h := ⟨by rw [List.length_set]; exact P.len, fun q hq => by
  rcases List.mem_or_eq_of_mem_set hq with h | h
  · exact P.row q h
  · rw [h]; exact hr⟩
theorem map_set (T : List (List Nat)) (i : Nat) (r : List Nat) : (T.map rwD).set i (rwD r) = (T.set i r).map rwD := by rw [List.map_set]
/-- the changed sign -/
theorem w_sign {R T : List (List Nat)} {w h w' h' : Nat} (P : Pat R w h) (Q : Rws T w' h') (w1 : 1 ≤ w') (wb : w' ≤ 100) (h1 : 1 ≤ h') (hb : h' ≤ 100) {v2 v3 v5 : Cell} (ds : List Int) : ∃ (T' : List (List Nat)) (ds' : List Int) (v6 v7 v8 : Cell), Rws T' w' h' ∧ sIf (eTst (eBin (fun x y => (bEq x y).map .bool) (eRetD (eCall1 0 0 m__law_take (rIo 0 (rCons (eC (.int 3)) (rNil))))) (eC (.int 0)))) (sSeq (sSet 6 (eRetD (eCall1 0 0 m__law_take (rIo 0 (rCons (eLenOwn 4) (rNil))))))
  (sSeq (sSet 7 (eRetD (eCall1 0 0 m__law_take (rIo 0 (rCons (eCB cLen (aCons (eIxOwn 4 (eVar 6)) (aNil))) (rNil))))))
  (sSeq (sSet 8 (eRetD (eCall0 m__law_sign (aCons (eVar 1) (aCons (eRetD (eCall1 0 0 m__law_take (rIo 0 (rCons (eC (.int 6)) (rNil))))) (aCons (eRetD (eCall1 0 0 m__law_take (rIo 0 (rCons (eC (.int 6)) (rNil))))) (aNil)))))))
  (sItem 4 (eVar 6) (eBin dAddA (eBin dAddA (eSl (eIxOwn 4 (eVar 6)) (oNone) (oSome (eVar 7))) (eVar 8)) (eSl (eIxOwn 4 (eVar 6)) (oSome (eBin dAddA (eVar 7) (eC (.int 1)))) (oNone))))))) (sNx) [.ol (is ds), .sh (rowsD R), v2, v3, .ol ((T.map rwD)), v5, .dead, .dead, .dead, .dead] = some (.nx [.ol (is ds'), .sh (rowsD R), v2, v3, .ol ((T'.map rwD)), v5, v6, v7, v8, .dead]) := by
  by_cases hk : tk ds 3 = 0
  · generalize hd0 : ds.dropLast = d0
    obtain ⟨at_, ha, ha'⟩ := tkN (ds := d0) (n := (h' : Int)) (by omega)
    generalize hd1 : d0.dropLast = d1
    obtain ⟨pl, hp, hp'⟩ := tkN (ds := d1) (n := (w' : Int)) (by omega)
    generalize hd2 : d1.dropLast = d2
    obtain ⟨sx, hsx, hsx'⟩ := tkN (ds := d2) (n := 6) (by decide)
    generalize hd3 : d2.dropLast = d3
    obtain ⟨sy, hsy, hsy'⟩ := tkN (ds := d3) (n := 6) (by decide)
    generalize hd4 : d3.dropLast = d4
    have hQl := Q.len
    have hat : at_ < T.length := by omega
    obtain ⟨r, hr, eix⟩ : ∃ r, r ∈ T ∧ atI (T.map rwD) (at_ : Int) = some (rwD r) := ⟨T[at_], List.getElem_mem _, by rw [atI_map, atI_lt hat]; rfl⟩
    have hrc := Q.row r hr
    have hrl := hrc.l
    have es := v_lsign P sx sy
    have ew : cLen [rwD r] = some (.int (w' : Int)) := by
      show (if (SL r).length ≤ sizeLine then some (PyData.int ((SL r).length : Int)) else none) = _
      rw [SL_len, hrl, if_pos (by unfold sizeLine; omega)]
    have f1 := sl_to (r := r) (by omega) pl
    have f2 := sl_from (r := r) (by omega) (pl + 1)
    have ec : cD (sgN R w h sx sy) = rwD [sgN R w h sx sy] := rfl
    rw [ec] at es
    have f3 := add_rw (a := r.take pl) (b := [sgN R w h sx sy]) (by rw [List.length_take, List.length_singleton]; omega)
    have f4 := add_rw (a := r.take pl ++ [sgN R w h sx sy]) (b := r.drop (pl + 1)) (by rw [List.length_append, List.length_take, List.length_singleton, List.length_drop]; omega)
    have hnew : Chars w' (r.take pl ++ [sgN R w h sx sy] ++ r.drop (pl + 1)) := by
      have q := chars_app (chars_app (chars_take hrc (x := pl) (by omega)) (show Chars 1 [sgN R w h sx sy] from ⟨rfl, fun c hc => by rw [List.mem_singleton.mp hc]; exact sg_ch P sx sy⟩)) (chars_drop hrc (pl + 1))
      rwa [show pl + 1 + (w' - (pl + 1)) = w' by omega] at q
    have hlen : (((T.map rwD).length : Nat) : Int) = (h' : Int) := by rw [List.length_map, hQl]
    have hix : ixN (T.map rwD).length (at_ : Int) = some at_ := by rw [ixN_in (by omega) (by rw [List.length_map]; omega), Int.toNat_natCast]
    refine ⟨T.set at_ (r.take pl ++ [sgN R w h sx sy] ++ r.drop (pl + 1)), d4, .sh (.int (at_ : Int)), .sh (.int (pl : Int)), .sh (rwD [sgN R w h sx sy]), rws_set Q hnew, ?_⟩
    rw [← map_set]
    have n1 : (h' : Int) ≠ 0 := by omega
    have n2 : (w' : Int) ≠ 0 := by omega
    rw [show ((pl + 1 : Nat) : Int) = (pl : Int) + 1 by omega] at f2
    clear P Q hnew hrc hr hat hQl ec
    generalize rwD (r.take pl ++ [sgN R w h sx sy] ++ r.drop (pl + 1)) = N1 at *
    generalize rwD (r.take pl ++ [sgN R w h sx sy]) = N2 at *
    generalize rwD [sgN R w h sx sy] = N3 at *
    generalize rwD (r.take pl) = N4 at *
    generalize rwD (r.drop (pl + 1)) = N5 at *
    generalize rwD r = N6 at *
    generalize T.map rwD = TT at *
    generalize rowsD R = RR at *
    generalize (h' : Int) = HH at *
    generalize (w' : Int) = WW at *
    refine (if_t (ρ1 := [.ol (is d0), .sh (RR), v2, v3, .ol (TT), v5, .dead, .dead, .dead, .dead]) (by simp [hk, hd0])).trans ?_
    refine (seq_nx (ρ1 := [.ol (is d1), .sh (RR), v2, v3, .ol (TT), v5, .sh (.int ((at_ : Int))), .dead, .dead, .dead]) (by simp [hlen, n1, ha, hd1])).trans ?_
    refine (seq_nx (ρ1 := [.ol (is d2), .sh (RR), v2, v3, .ol (TT), v5, .sh (.int ((at_ : Int))), .sh (.int ((pl : Int))), .dead, .dead]) (by simp [eix, ew, n2, hp, hd2])).trans ?_
    refine (seq_nx (ρ1 := [.ol (is d4), .sh (RR), v2, v3, .ol (TT), v5, .sh (.int ((at_ : Int))), .sh (.int ((pl : Int))), .sh (N3), .dead]) (by simp [hsx, hd3, hsy, hd4, es])).trans ?_
    simp [eix, f1, f2, f3, f4, hix]
  · refine ⟨T, ds.dropLast, .dead, .dead, .dead, Q, ?_⟩
    generalize T.map rwD = TT at *
    generalize rowsD R = RR at *
    simp [hk]


theorem mulL_ok {ds : List D} {k : Nat} (hn : ds.length ≤ 100) (hk : k ≤ 2) : dMulL (.list ds) (.int (k : Int)) = some (.ol (List.replicate k ds).flatten) := by
  have h := rep_ok2 hn hk
  show (if repOk ds.length (k : Int) = true then some (Cell.ol (List.replicate (k : Int).toNat ds).flatten) else none) = _
  rw [if_pos h, Int.toNat_natCast]
theorem binN_v {gN : D → D → Option Cell} {i : Nat} {fe : FE} {ρ ρ2 : En} {ds : List D} {e : D} {es : List D} (hi : ρ[i]? = some (.ol ds)) (h2 : fe (ρ.set i (.sh (.list ds))) = some (e, ρ2)) (h : gN (.list ds) e = some (.ol es)) : sSetN i (eBinN gN (eVar i) fe) ρ = some (.nx (ρ2.set i (.ol es))) := by
  simp [hi, h2, h]
theorem v_second {R : List (List Nat)} {w h : Nat} (P : Pat R w h) (hw9 : w ≤ 9) (hh6 : h ≤ 6) (ds : List Int) : ∃ (R' : List (List Nat)) (w' h' : Nat) (ds' : List Int), Pat R' w' h' ∧ m__law_second [.ol (is ds), .sh (rowsD R)] = some (.sh (rowsD R'), [.ol (is ds'), .sh (rowsD R)]) := by
  have w1 := P.w1
  have h1 := P.h1
  obtain ⟨x0, hx, hx'⟩ := tkN (ds := ds) (n := (w : Int)) (by omega)
  generalize hd0 : ds.dropLast = d0
  obtain ⟨y0, hy, hy'⟩ := tkN (ds := d0) (n := (h : Int)) (by omega)
  generalize hd1 : d0.dropLast = d1
  obtain ⟨x, y, bx, by_, c1⟩ : ∃ x y : Nat, x ≤ w ∧ y ≤ h ∧ sIf (eTst (eBin (fun x y => (bEq x y).map .bool) (eRetD (eCall1 0 0 m__law_take (rIo 0 (rCons (eC (.int 3)) (rNil))))) (eC (.int 0)))) (sSeq (sSet 2 (eC (.int 0)))
  (sSet 3 (eC (.int 0)))) (sNx) [.ol (is d1), .sh (rowsD R), .sh (.int ((x0 : Int))), .sh (.int ((y0 : Int))), .dead, .dead, .dead, .dead, .dead, .dead] = some (.nx [.ol (is d1.dropLast), .sh (rowsD R), .sh (.int ((x : Int))), .sh (.int ((y : Int))), .dead, .dead, .dead, .dead, .dead, .dead]) := by
    by_cases hk : tk d1 3 = 0
    · exact ⟨0, 0, by omega, by omega, by generalize rowsD R = Q; simp [hk]⟩
    · exact ⟨x0, y0, by omega, by omega, by generalize rowsD R = Q; simp [hk]⟩
  generalize hd2 : d1.dropLast = d2 at *
  obtain ⟨T1, Q1, e1⟩ := w_s1 P bx by_ d2
  obtain ⟨t0, ht, ht'⟩ := tkN (ds := d2) (n := 2) (by decide)
  generalize hd3 : d2.dropLast = d3
  have i3 := pat_0 P
  have i4 := pat_w P
  have i5 := pat_h P
  have ett : ((1 + t0 : Nat) : Int) = 1 + (t0 : Int) := by omega
  obtain ⟨T2, w2, Q2, b1, b2, c2⟩ : ∃ (T2 : List (List Nat)) (w2 : Nat), Rws T2 w2 h ∧ 1 ≤ w2 ∧ w2 ≤ 20 ∧ sIf (eTst (eBin (fun x y => (bLt x y).map .bool) (eCB cLen (aCons (eBin dIx (eVar 1) (eC (.int 0))) (aNil))) (eC (.int 5)))) (sSetN 4 (k__law_second_2)) (sNx) [.ol (is d3), .sh (rowsD R), .sh (.int ((x : Int))), .sh (.int ((y : Int))), .ol ((T1.map rwD)), .sh (.int (((1 + t0 : Nat) : Int))), .dead, .dead, .dead, .dead] = some (.nx [.ol (is d3), .sh (rowsD R), .sh (.int ((x : Int))), .sh (.int ((y : Int))), .ol ((T2.map rwD)), .sh (.int (((1 + t0 : Nat) : Int))), .dead, .dead, .dead, .dead]) := by
    by_cases c : w < 5
    · obtain ⟨Q2, e2⟩ := w_s2 Q1 (by omega) (by omega) (times := 1 + t0) (by omega) (v1 := .sh (rowsD R)) (v2 := .sh (.int (x : Int))) (v3 := .sh (.int (y : Int))) d3
      have hle := Nat.mul_le_mul (show 1 + t0 ≤ 2 by omega) (show w ≤ 9 by omega)
      have hge := Nat.mul_le_mul (show 1 ≤ 1 + t0 by omega) w1
      refine ⟨_, (1 + t0) * w, Q2, by omega, by omega, ?_⟩
      have hc : (w : Int) < 5 := by omega
      clear Q1 Q2 P e1 c1
      generalize List.map rwD (List.map (fun r => (List.replicate (1 + t0) r).flatten) T1) = TT2 at *
      generalize T1.map rwD = TT1 at *
      generalize rwD (R.getD 0 []) = A at *
      generalize rowsD R = RR at *
      generalize ((1 + t0 : Nat) : Int) = tm at *
      generalize (w : Int) = W at *
      simp [i3, i4, hc, e2]
    · refine ⟨T1, w, Q1, w1, by omega, ?_⟩
      have hc : ¬ (w : Int) < 5 := by omega
      clear Q1 P e1 c1
      generalize T1.map rwD = TT1 at *
      generalize rwD (R.getD 0 []) = A at *
      generalize rowsD R = RR at *
      generalize ((1 + t0 : Nat) : Int) = tm at *
      generalize (w : Int) = W at *
      simp [i3, i4, hc]
  obtain ⟨T3, h3, d4, Q3, b3, b4, c3⟩ : ∃ (T3 : List (List Nat)) (h3 : Nat) (d4 : List Int), Rws T3 w2 h3 ∧ 1 ≤ h3 ∧ h3 ≤ 20 ∧ sIf (eTst (eBin (fun x y => (bLt x y).map .bool) (eCB cLen (aCons (eVar 1) (aNil))) (eC (.int 5)))) (sSetN 4 (eBinN dMulL (eVar 4) (eBin dAddA (eC (.int 1)) (eRetD (eCall1 0 0 m__law_take (rIo 0 (rCons (eC (.int 2)) (rNil)))))))) (sNx) [.ol (is d3), .sh (rowsD R), .sh (.int ((x : Int))), .sh (.int ((y : Int))), .ol ((T2.map rwD)), .sh (.int (((1 + t0 : Nat) : Int))), .dead, .dead, .dead, .dead] = some (.nx [.ol (is d4), .sh (rowsD R), .sh (.int ((x : Int))), .sh (.int ((y : Int))), .ol ((T3.map rwD)), .sh (.int (((1 + t0 : Nat) : Int))), .dead, .dead, .dead, .dead]) := by
    by_cases c : h < 5
    · obtain ⟨t1, ht1, ht1'⟩ := tkN (ds := d3) (n := 2) (by decide)
      generalize hd4 : d3.dropLast = d4
      have hle := Nat.mul_le_mul (show 1 + t1 ≤ 2 by omega) (show h ≤ 6 by omega)
      have hge := Nat.mul_le_mul (show 1 ≤ 1 + t1 by omega) h1
      refine ⟨(List.replicate (1 + t1) T2).flatten, (1 + t1) * h, d4, rws_rep Q2 (1 + t1), by omega, by omega, ?_⟩
      have hc : (h : Int) < 5 := by omega
      have em := mulL_ok (ds := T2.map rwD) (k := 1 + t1) (by rw [List.length_map, Q2.len]; omega) (by omega)
      rw [map_rep] at em
      have et1 : ((1 + t1 : Nat) : Int) = 1 + (t1 : Int) := by omega
      clear Q1 Q2 P e1 c1 c2
      generalize List.map rwD (List.replicate (1 + t1) T2).flatten = TT3 at *
      generalize T2.map rwD = TT2 at *
      generalize rowsD R = RR at *
      generalize ((1 + t0 : Nat) : Int) = tm at *
      generalize (h : Int) = HH at *
      refine (if_t (ρ1 := [.ol (is d3), .sh (RR), .sh (.int ((x : Int))), .sh (.int ((y : Int))), .ol (TT2), .sh (.int (tm)), .dead, .dead, .dead, .dead]) (by simp [i5, hc])).trans ?_
      exact (binN_v (ρ2 := [.ol (is d4), .sh (RR), .sh (.int ((x : Int))), .sh (.int ((y : Int))), .sh (.list (TT2)), .sh (.int (tm)), .dead, .dead, .dead, .dead]) rfl (by rw [et1]; simp [ht1, hd4]) em).trans rfl
    · refine ⟨T2, h, d3, Q2, h1, by omega, ?_⟩
      have hc : ¬ (h : Int) < 5 := by omega
      clear Q1 Q2 P e1 c1 c2
      generalize T2.map rwD = TT2 at *
      generalize rowsD R = RR at *
      generalize ((1 + t0 : Nat) : Int) = tm at *
      generalize (h : Int) = HH at *
      simp [i5, hc]
  obtain ⟨T4, d5, v6, v7, v8, Q4, c4⟩ := w_sign P Q3 b1 (by omega) b3 (by omega) (v2 := .sh (.int (x : Int))) (v3 := .sh (.int (y : Int))) (v5 := .sh (.int ((1 + t0 : Nat) : Int))) d4
  have n1 : w ≠ 0 := by omega
  have n2 : h ≠ 0 := by omega
  refine ⟨T4, w2, h3, d5, rws_pat Q4 b1 b3 (by omega) (by omega), fn_io (ρ' := [.ol (is d5), .sh (rowsD R), .sh (.int ((x : Int))), .sh (.int ((y : Int))), .sh (.list ((T4.map rwD))), .sh (.int (((1 + t0 : Nat) : Int))), v6, v7, v8, .dead]) ?_ rfl rfl⟩
  have er : rowsD T4 = .tuple (T4.map rwD) := rfl
  rw [er]
  clear Q1 Q2 Q3 Q4 P
  generalize T1.map rwD = TT1 at *
  generalize T2.map rwD = TT2 at *
  generalize T3.map rwD = TT3 at *
  generalize T4.map rwD = TT4 at *
  generalize rwD (R.getD 0 []) = A at *
  generalize rowsD R = RR at *
  show s__law_second [.ol (is ds), .sh (RR), .dead, .dead, .dead, .dead, .dead, .dead, .dead, .dead] = _
  unfold s__law_second
  refine (seq_nx (ρ1 := [.ol (is d0), .sh (RR), .sh (.int ((x0 : Int))), .dead, .dead, .dead, .dead, .dead, .dead, .dead]) (by simp [i3, i4, n1, hx, hd0])).trans ?_
  refine (seq_nx (ρ1 := [.ol (is d1), .sh (RR), .sh (.int ((x0 : Int))), .sh (.int ((y0 : Int))), .dead, .dead, .dead, .dead, .dead, .dead]) (by simp [i5, n2, hy, hd1])).trans ?_
  refine (seq_nx c1).trans ?_
  refine (seq_nx (ρ1 := [.ol (is d2), .sh (RR), .sh (.int ((x : Int))), .sh (.int ((y : Int))), .ol (TT1), .dead, .dead, .dead, .dead, .dead]) (by simp [e1])).trans ?_
  refine (seq_nx (ρ1 := [.ol (is d3), .sh (RR), .sh (.int ((x : Int))), .sh (.int ((y : Int))), .ol (TT1), .sh (.int (((1 + t0 : Nat) : Int))), .dead, .dead, .dead, .dead]) (by rw [ett]; simp [ht, hd3])).trans ?_
  refine (seq_nx c2).trans ?_
  refine (seq_nx c3).trans ?_
  refine (seq_nx c4).trans ?_
  simp
theorem plain : ∀ ns : List Int, ns.length ≤ 63 → (∀ z ∈ ns, Builtin.Int.intBits z ≤ 1048576) → ∃ z, m_law [.sh (.list (ns.map .int))] = some (.sh (.bool true), z) := by
  intro ns hl _
  obtain ⟨d0, e0⟩ := v_draws ns 300 hl (by decide) (by decide)
  obtain ⟨d1, e1⟩ := v_bases_right d0 ns
  obtain ⟨d2, e2⟩ := v_bases_right d1 ns
  obtain ⟨R, w, h, d3, P, pw, ph, e3⟩ := v_pattern d2
  have e4 := v_steps_right P (by have := Nat.mul_le_mul pw ph; omega)
  obtain ⟨R2, w2, h2, d4, P2, e5⟩ := v_second P pw ph d3
  have e6 := v_two_right P P2
  obtain ⟨R3, w3, h3, d5, P3, _, _, e7⟩ := v_pattern d4
  have e8 := v_two_right P3 P
  clear P P2 P3
  generalize rowsD R = Q1 at *
  generalize rowsD R2 = Q2 at *
  generalize rowsD R3 = Q3 at *
  refine ⟨[], fn_ret (ρ' := [.sh (.list (is ns)), .ol (is d5), .sh (Q1)]) ?_⟩
  show s_law [.sh (.list (is ns)), .dead, .dead] = _
  unfold s_law
  refine (seq_nx (ρ1 := [.sh (.list (is ns)), .ol (is d0), .dead]) (by simp [e0])).trans ?_
  refine (seq_nx (if_f (ρ1 := [.sh (.list (is ns)), .ol (is d2), .dead]) (by simp [e1, e2]))).trans ?_
  refine (seq_nx (ρ1 := [.sh (.list (is ns)), .ol (is d3), .sh (Q1)]) (by simp [e3])).trans ?_
  refine (seq_nx (if_f (ρ1 := [.sh (.list (is ns)), .ol (is d4), .sh (Q1)]) (by simp [e4, e5, e6]))).trans ?_
  simp [e7, e8, e4]


end L2.G
open PySem PySem.W PyProof.Rows
set_option maxHeartbeats 0 in
theorem PySem.Challenge.cw_paperkeep_k57_whole_one_base_of_each_lat_holds : PySem.Challenge.rw_paperkeep_k57_whole_one_base_of_each_lat.Holds := by
  w_on; o_law; k_head; (case hw => w_witness2)
  k_fill
  refine L2.walk_ofB (l := PySem.Challenge.rw_paperkeep_k57_whole_one_base_of_each_lat) (n := 63) (k := 14) (x := "script") (CX := fun _ => L2.CX0) (sp := fun w vs H Q E => vs.length = ["script"].length ∧ L2.Pd.spD _ [] L2.G.m_law vs H Q E) rfl (by decide) rfl ⟨rfl, by decide, by decide⟩ (fun w h Y => PySem.W.kIn_of Y) ?F (fun _ _ a ns hl hb _ hS => L2.Pd.law_sp hS (L2.G.plain ns hl hb)) (fun _ _ _ _ _ h => h)
  case F =>
    intro w mg fa h KX G hmg
    refine' L2.G.all_mk KX G hmg ?a0 ?l0 ?c0 ?k0 ?a1 ?l1 ?c1 ?k1 ?a2 ?l2 ?c2 ?k2 ?a3 ?l3 ?c3 ?k3 ?a4 ?l4 ?c4 ?k4 ?a5 ?l5 ?c5 ?k5 ?a6 ?l6 ?c6 ?k6 ?a7 ?l7 ?c7 ?k7 ?a8 ?l8 ?c8 ?k8 ?a9 ?l9 ?c9 ?k9 ?a10 ?l10 ?c10 ?k10 ?a11 ?l11 ?c11 ?k11 ?a12 ?l12 ?c12 ?k12 ?a13 ?l13 ?c13 ?k13 ?a14 ?l14 ?c14 ?k14 ?a15 ?l15 ?c15 ?k15 ?a16 ?l16 ?c16 ?k16 ?a17 ?l17 ?c17 ?k17 ?a18 ?l18 ?c18 ?k18 ?a19 ?l19 ?c19 ?k19 ?a20 ?l20 ?c20 ?k20 ?a21 ?l21 ?c21 ?k21 ?a22 ?l22 ?c22 ?k22 ?a23 ?l23 ?c23 ?k23 ?a24 ?l24 ?c24 ?k24 ?a25 ?l25 ?c25 ?k25 ?a26 ?l26 ?c26 ?k26 ?a27 ?l27 ?c27 ?k27 ?a28 ?l28 ?c28 ?k28 ?a29 ?l29 ?c29 ?k29 ?a30 ?l30 ?c30 ?k30 ?a31 ?l31 ?c31 ?k31 ?z_abs ?z_bool ?z_int ?z_isinstance ?z_len ?z_list ?z_range ?z_str ?z_tuple
    (case a0 => k_is); (case l0 => k_is); (case c0 => k_is); (case k0 => k_is); (case a1 => k_is); (case l1 => k_is); (case c1 => k_is); (case k1 => k_is); (case a2 => k_is); (case l2 => k_is); (case c2 => k_is); (case k2 => k_is); (case a3 => k_is); (case l3 => k_is); (case c3 => k_is); (case k3 => k_is); (case a4 => k_is); (case l4 => k_is); (case c4 => k_is); (case k4 => k_is); (case a5 => k_is); (case l5 => k_is); (case c5 => k_is); (case k5 => k_is); (case a6 => k_is); (case l6 => k_is); (case c6 => k_is); (case k6 => k_is); (case a7 => k_is); (case l7 => k_is); (case c7 => k_is); (case k7 => k_is); (case a8 => k_is); (case l8 => k_is); (case c8 => k_is); (case k8 => k_is); (case a9 => k_is); (case l9 => k_is); (case c9 => k_is); (case k9 => k_is); (case a10 => k_is); (case l10 => k_is); (case c10 => k_is); (case k10 => k_is); (case a11 => k_is); (case l11 => k_is); (case c11 => k_is); (case k11 => k_is); (case a12 => k_is); (case l12 => k_is); (case c12 => k_is); (case k12 => k_is); (case a13 => k_is); (case l13 => k_is); (case c13 => k_is); (case k13 => k_is); (case a14 => k_is); (case l14 => k_is); (case c14 => k_is); (case k14 => k_is); (case a15 => k_is); (case l15 => k_is); (case c15 => k_is); (case k15 => k_is); (case a16 => k_is); (case l16 => k_is); (case c16 => k_is); (case k16 => k_is); (case a17 => k_is); (case l17 => k_is); (case c17 => k_is); (case k17 => k_is); (case a18 => k_is); (case l18 => k_is); (case c18 => k_is); (case k18 => k_is); (case a19 => k_is); (case l19 => k_is); (case c19 => k_is); (case k19 => k_is); (case a20 => k_is); (case l20 => k_is); (case c20 => k_is); (case k20 => k_is); (case a21 => k_is); (case l21 => k_is); (case c21 => k_is); (case k21 => k_is); (case a22 => k_is); (case l22 => k_is); (case c22 => k_is); (case k22 => k_is); (case a23 => k_is); (case l23 => k_is); (case c23 => k_is); (case k23 => k_is); (case a24 => k_is); (case l24 => k_is); (case c24 => k_is); (case k24 => k_is); (case a25 => k_is); (case l25 => k_is); (case c25 => k_is); (case k25 => k_is); (case a26 => k_is); (case l26 => k_is); (case c26 => k_is); (case k26 => k_is); (case a27 => k_is); (case l27 => k_is); (case c27 => k_is); (case k27 => k_is); (case a28 => k_is); (case l28 => k_is); (case c28 => k_is); (case k28 => k_is); (case a29 => k_is); (case l29 => k_is); (case c29 => k_is); (case k29 => k_is); (case a30 => k_is); (case l30 => k_is); (case c30 => k_is); (case k30 => k_is); (case a31 => k_is); (case l31 => k_is); (case c31 => k_is); (case k31 => k_is); (case z_abs => k_is); (case z_bool => k_is); (case z_int => k_is); (case z_isinstance => k_is); (case z_len => k_is); (case z_list => k_is); (case z_range => k_is); (case z_str => k_is); (case z_tuple => k_is)
