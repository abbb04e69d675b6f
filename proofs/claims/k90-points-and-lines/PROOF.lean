import PyProof.Rows.All
import Wide.All
import OpenK.AllK
import Wide.FinOn
import HandS.ForMost
import HandS.IsInst
import HandS.Flow
import HandS.Wide
import HandS.Style
import HandS.Deep
import HandS.Conv
import HandS.TupAny
import HandS.EndBits
import KE.SortData
import KE.DataMinMax
import KE.DataCmp
import HandS.NoneIn
import HandS.TupMul
import PySem.Challenge.RW_paperkeep_k90_whole_folds_of_points_and
set_option Elab.async false
set_option linter.all false
set_option maxRecDepth 100000
set_option maxHeartbeats 4000000
namespace L2.Pd
open PySem PySem.Spec PyProof.Rows
/-! ## Pure data over the hand layer: cells, what holds of them, the growing of the heap -/
abbrev D := PyData
/-- what a def's slot holds: nothing that is asked for; data that nobody changes; a list, a dict, a set of the def's own -/
inductive Cell where
  | dead
  | sh (d : D)
  | ol (ds : List D)
  | od (kvs : List (Key × D))
  | ot (kvs : List (List Key × D))
  | os (ns : List Int)
abbrev En := List Cell
def isOwn : Cell → Bool
  | .dead => false
  | .sh _ => false
  | _ => true
def KvOk (K : PySem.W.Frag) (F : Hp) {κ : Type} (kvs : List (κ × D)) (ws : List (κ × V)) : Prop := Paired (fun (p : κ × D) (q : κ × V) => p.1 = q.1 ∧ Dp K F q.2 p.2) kvs ws
/-- the object of an own cell -/
def Ob (K : PySem.W.Frag) (F : Hp) : Cell → HO → Prop
  | .ol ds, .lst vs => DpAll K F vs ds
  | .od kvs, .dK ws => KvOk K F kvs ws
  | .ot kvs, .dT ws => KvOk K F kvs ws
  | .os ns, .set S n => (∀ i, S i = decide (i ∈ ns)) ∧ n = ns.length ∧ ns.Nodup
  | _, _ => False
def CellOk (K : PySem.W.Frag) (B F H : Hp) (x : Option V) : Cell → Prop
  | .dead => True
  | .sh d => ∃ v, x = some v ∧ Dp K F v d
  | c => ∃ a o, x = some (.ref a) ∧ H a = some o ∧ Ob K F c o ∧ F a = none ∧ B a = none
structure Con (K : PySem.W.Frag) (B F : Hp) (io : List (Nat × Addr)) (σ : St) (H : Hp) (ρ : En) : Prop where
  len : σ.length = ρ.length
  base : Same B H
  frz : Same F H
  cell : ∀ (i : Nat) (c : Cell), ρ[i]? = some c → ∃ x, σ[i]? = some x ∧ CellOk K B F H x c
  sep : ∀ (i j : Nat) (c e : Cell) (a : Addr), ρ[i]? = some c → ρ[j]? = some e → isOwn c = true → isOwn e = true → σ[i]? = some (some (.ref a)) → σ[j]? = some (some (.ref a)) → i = j
  io : ∀ p ∈ io, σ[p.1]? = some (some (.ref p.2))
/-- the frozen heap grows by what is new -/
structure Gr (B F F' : Hp) : Prop where
  sub : Same F F'
  new : ∀ a o, F' a = some o → F a = some o ∨ B a = none
/-- both heaps grow, nothing is changed -/
structure Al (F H F' H' : Hp) : Prop where
  ff : Same F F'
  hh : Same H H'
  sub : Same F' H'
  new : ∀ a o, F' a = some o → F a = some o ∨ H a = none

theorem Gr.refl (B F : Hp) : Gr B F F := ⟨Same.refl F, fun _ _ h => .inl h⟩
theorem Gr.trans {B F F1 F2 : Hp} (a : Gr B F F1) (b : Gr B F1 F2) : Gr B F F2 := ⟨a.sub.trans b.sub, fun x o h => by
  rcases b.new x o h with q | q
  · exact a.new x o q
  · exact .inr q⟩
theorem Al.refl {F H : Hp} (h : Same F H) : Al F H F H := ⟨Same.refl F, Same.refl H, h, fun _ _ q => .inl q⟩
theorem Al.trans {F H F1 H1 F2 H2 : Hp} (a : Al F H F1 H1) (b : Al F1 H1 F2 H2) : Al F H F2 H2 := ⟨a.ff.trans b.ff, a.hh.trans b.hh, b.sub, fun x o h => by
  rcases b.new x o h with q | q
  · exact a.new x o q
  · exact .inr (a.hh.free q)⟩
theorem same_upd {H : Hp} {p : Addr} {o : HO} (h : H p = none) : Same H (upd H p o) := fun b x e => by
  rw [upd_ne (ne_of_none e h)]
  exact e
theorem same_upd2 {F H : Hp} {p : Addr} {o : HO} (h : Same F H) : Same (upd F p o) (upd H p o) := fun b x e => by
  by_cases q : b = p
  · subst q; rw [upd_same] at e ⊢; exact e
  · rw [upd_ne q] at e ⊢; exact h b x e
theorem Al.laid {F H : Hp} {p : Addr} {o : HO} (h : Same F H) (n : H p = none) : Al F H (upd F p o) (upd H p o) :=
  ⟨same_upd (h.free n), same_upd n, same_upd2 h, fun a x e => by
    by_cases q : a = p
    · subst q; exact .inr n
    · rw [upd_ne q] at e; exact .inl e⟩
/-- the heap alone grows -/
theorem Al.laidH {F H : Hp} {p : Addr} {o : HO} (h : Same F H) (n : H p = none) : Al F H F (upd H p o) :=
  ⟨Same.refl F, same_upd n, h.trans (same_upd n), fun a x e => .inl e⟩
theorem Al.gr {B F H F' H' : Hp} (a : Al F H F' H') (b : Same B H) : Gr B F F' := ⟨a.ff, fun x o h => by
  rcases a.new x o h with q | q
  · exact .inl q
  · exact .inr (b.free q)⟩

theorem Rd.mono {F F' : Hp} (s : Same F F') {a : Addr} {u : HO} (h : Rd F a u) : Rd F' a u := by
  rcases h with h | ⟨o, h⟩
  · exact .inl (s _ _ h)
  · exact .inr ⟨o, s _ _ h⟩
theorem sqT_mono {K : PySem.W.Frag} {F F' : Hp} (s : Same F F') {a : Addr} {xs : List V} (h : SqT K F a xs) : SqT K F' a xs := by
  rcases h with h | h
  · exact .inl (Rd.mono s h)
  · exact .inr h
mutual
theorem dp_mono {K : PySem.W.Frag} {F F' : Hp} (s : Same F F') : ∀ {d : D} {v : V}, Dp K F v d → Dp K F' v d
  | .none, _, h => by cases h; exact .non
  | .bool _, _, h => by cases h; exact .bl _
  | .int _, _, h => by cases h; exact .int _
  | .str _, _, h => by cases h; exact .str _
  | .list ds, _, h => by
    cases h with
    | lst q r => exact .lst (s.seq q) (dpAll_mono s r)
  | .tuple ds, _, h => by
    cases h with
    | tup q r => exact .tup (sqT_mono s q) (dpAll_mono s r)
  | .dict _, _, h => by cases h
theorem dpAll_mono {K : PySem.W.Frag} {F F' : Hp} (s : Same F F') : ∀ {ds : List D} {vs : List V}, DpAll K F vs ds → DpAll K F' vs ds
  | [], _, h => by cases h; exact .nil
  | d :: ds, _, h => by
    cases h with
    | cons q r => exact .cons (dp_mono s q) (dpAll_mono s r)
end
theorem kvOk_mono {K : PySem.W.Frag} {F F' : Hp} (s : Same F F') {κ : Type} {kvs : List (κ × D)} {ws : List (κ × V)} (h : KvOk K F kvs ws) : KvOk K F' kvs ws := by
  unfold KvOk at h ⊢
  induction h with
  | nil => exact .nil
  | cons r t ih => exact .cons ⟨r.1, dp_mono s r.2⟩ ih
theorem ob_mono {K : PySem.W.Frag} {F F' : Hp} (s : Same F F') {c : Cell} {o : HO} (h : Ob K F c o) : Ob K F' c o := by
  cases c <;> cases o <;> first
    | exact dpAll_mono s h
    | exact kvOk_mono s h
    | exact h
theorem ob_own {K : PySem.W.Frag} {F : Hp} {c : Cell} {o : HO} (h : Ob K F c o) : isOwn c = true := by
  cases c <;> first | rfl | (cases o <;> exact h.elim)
/-! ### lists of data -/
theorem _root_.L2.DpAll.length {K : PySem.W.Frag} {F : Hp} : ∀ {vs : List V} {ds : List D}, DpAll K F vs ds → vs.length = ds.length
  | _, [], h => by cases h; rfl
  | _, d :: ds, h => by
    cases h with
    | cons q r => rw [List.length_cons, List.length_cons, DpAll.length r]
theorem _root_.L2.DpAll.get {K : PySem.W.Frag} {F : Hp} : ∀ {vs : List V} {ds : List D} {i : Nat} {v : V}, DpAll K F vs ds → vs[i]? = some v → ∃ d, ds[i]? = some d ∧ Dp K F v d
  | _, [], i, v, h, e => by cases h; simp at e
  | _, d :: ds, 0, v, h, e => by
    cases h with
    | cons q r => simp at e; subst e; exact ⟨d, rfl, q⟩
  | _, d :: ds, i + 1, v, h, e => by
    cases h with
    | cons q r =>
      obtain ⟨d', e', q'⟩ := DpAll.get (i := i) (v := v) r (by simpa using e)
      exact ⟨d', by simpa using e', q'⟩
theorem _root_.L2.DpAll.get' {K : PySem.W.Frag} {F : Hp} : ∀ {vs : List V} {ds : List D} {i : Nat} {d : D}, DpAll K F vs ds → ds[i]? = some d → ∃ v, vs[i]? = some v ∧ Dp K F v d
  | _, [], i, v, h, e => by simp at e
  | _, d :: ds, 0, v, h, e => by
    cases h with
    | cons q r => simp at e; subst e; exact ⟨_, rfl, q⟩
  | _, d :: ds, i + 1, v, h, e => by
    cases h with
    | cons q r =>
      obtain ⟨d', e', q'⟩ := DpAll.get' (i := i) r (by simpa using e)
      exact ⟨d', by simpa using e', q'⟩
theorem _root_.L2.DpAll.append {K : PySem.W.Frag} {F : Hp} : ∀ {vs ws : List V} {ds es : List D}, DpAll K F vs ds → DpAll K F ws es → DpAll K F (vs ++ ws) (ds ++ es)
  | _, _, [], _, h, r => by cases h; exact r
  | _, _, d :: ds, _, h, r => by
    cases h with
    | cons q t => exact .cons q (DpAll.append t r)
theorem _root_.L2.DpAll.one {K : PySem.W.Frag} {F : Hp} {v : V} {d : D} (h : Dp K F v d) : DpAll K F [v] [d] := .cons h .nil
theorem _root_.L2.DpAll.take {K : PySem.W.Frag} {F : Hp} : ∀ {vs : List V} {ds : List D} (n : Nat), DpAll K F vs ds → DpAll K F (vs.take n) (ds.take n)
  | _, _, 0, _ => .nil
  | _, [], _ + 1, h => by cases h; exact .nil
  | _, d :: ds, n + 1, h => by
    cases h with
    | cons q r => exact .cons q (DpAll.take n r)
theorem _root_.L2.DpAll.drop {K : PySem.W.Frag} {F : Hp} : ∀ {vs : List V} {ds : List D} (n : Nat), DpAll K F vs ds → DpAll K F (vs.drop n) (ds.drop n)
  | _, _, 0, h => h
  | _, [], _ + 1, h => by cases h; exact .nil
  | _, d :: ds, n + 1, h => by
    cases h with
    | cons q r => exact DpAll.drop n r
theorem _root_.L2.DpAll.set {K : PySem.W.Frag} {F : Hp} {v : V} {d : D} (h : Dp K F v d) : ∀ {vs : List V} {ds : List D} (i : Nat), DpAll K F vs ds → DpAll K F (vs.set i v) (ds.set i d)
  | _, [], _, r => by cases r; exact .nil
  | _, e :: ds, 0, r => by
    cases r with
    | cons q t => exact .cons h t
  | _, e :: ds, i + 1, r => by
    cases r with
    | cons q t => exact .cons q (DpAll.set h i t)
theorem _root_.L2.DpAll.reverse {K : PySem.W.Frag} {F : Hp} : ∀ {vs : List V} {ds : List D}, DpAll K F vs ds → DpAll K F vs.reverse ds.reverse
  | _, [], h => by cases h; exact .nil
  | _, d :: ds, h => by
    cases h with
    | cons q r => rw [List.reverse_cons, List.reverse_cons]; exact DpAll.append (DpAll.reverse r) (.one q)
theorem _root_.L2.DpAll.eraseIdx {K : PySem.W.Frag} {F : Hp} : ∀ {vs : List V} {ds : List D} (i : Nat), DpAll K F vs ds → DpAll K F (vs.eraseIdx i) (ds.eraseIdx i)
  | _, [], _, r => by cases r; exact .nil
  | _, e :: ds, 0, r => by
    cases r with
    | cons q t => exact t
  | _, e :: ds, i + 1, r => by
    cases r with
    | cons q t => exact .cons q (DpAll.eraseIdx i t)
theorem _root_.L2.DpAll.dropLast {K : PySem.W.Frag} {F : Hp} {vs : List V} {ds : List D} (h : DpAll K F vs ds) : DpAll K F vs.dropLast ds.dropLast := by
  rw [List.dropLast_eq_take, List.dropLast_eq_take, h.length]
  exact h.take _
theorem dp_ints {K : PySem.W.Frag} {F : Hp} : ∀ ns : List Int, DpAll K F (ns.map V.int) (ns.map PyData.int)
  | [] => .nil
  | n :: ns => .cons (.int n) (dp_ints ns)
theorem dp_ints_inv {K : PySem.W.Frag} {F : Hp} : ∀ {ns : List Int} {vs : List V}, DpAll K F vs (ns.map PyData.int) → vs = ns.map V.int
  | [], _, h => by cases h; rfl
  | n :: ns, _, h => by
    cases h with
    | cons q r => cases q; rw [dp_ints_inv r]; rfl
theorem dp_strs_inv {K : PySem.W.Frag} {F : Hp} : ∀ {ns : List Str} {vs : List V}, DpAll K F vs (ns.map PyData.str) → vs = ns.map V.str
  | [], _, h => by cases h; rfl
  | n :: ns, _, h => by
    cases h with
    | cons q r => cases q; rw [dp_strs_inv r]; rfl
theorem dp_bls_inv {K : PySem.W.Frag} {F : Hp} : ∀ {ns : List Bool} {vs : List V}, DpAll K F vs (ns.map PyData.bool) → vs = ns.map V.bl
  | [], _, h => by cases h; rfl
  | n :: ns, _, h => by
    cases h with
    | cons q r => cases q; rw [dp_bls_inv r]; rfl
/-! ### the state under growing, storing, writing -/
section
variable {K : PySem.W.Frag} {B F F' H H' : Hp} {io : List (Nat × Addr)} {σ : St} {ρ : En}
theorem cellOk_own {x : Option V} {c : Cell} (h : isOwn c = true) : CellOk K B F H x c ↔ ∃ a o, x = some (.ref a) ∧ H a = some o ∧ Ob K F c o ∧ F a = none ∧ B a = none := by
  cases c <;> first | exact Iff.rfl | (cases h)
theorem Con.al (c : Con K B F io σ H ρ) (a : Al F H F' H') : Con K B F' io σ H' ρ := by
  refine ⟨c.len, c.base.trans a.hh, a.sub, fun i e he => ?_, c.sep, c.io⟩
  obtain ⟨x, hx, ok⟩ := c.cell i e he
  refine ⟨x, hx, ?_⟩
  by_cases ho : isOwn e = true
  · rw [cellOk_own ho] at ok ⊢
    obtain ⟨p, o, h1, h2, h3, h4, h5⟩ := ok
    refine ⟨p, o, h1, a.hh _ _ h2, ob_mono a.ff h3, ?_, h5⟩
    cases q : F' p with
    | none => rfl
    | some u =>
      rcases a.new p u q with z | z
      · rw [h4] at z; cases z
      · rw [h2] at z; cases z
  · cases e with
    | dead => trivial
    | sh d => obtain ⟨v, h1, h2⟩ := ok; exact ⟨v, h1, dp_mono a.ff h2⟩
    | _ => exact absurd rfl ho
theorem get_set_cases {α : Type} {l : List α} {i j : Nat} {x y : α} (h : (l.set i x)[j]? = some y) : (j = i ∧ y = x ∧ i < l.length) ∨ (j ≠ i ∧ l[j]? = some y) := by
  by_cases e : i = j
  · subst e
    by_cases q : i < l.length
    · rw [List.getElem?_set_self q] at h
      exact .inl ⟨rfl, (Option.some.inj h).symm, q⟩
    · rw [List.getElem?_eq_none (by rw [List.length_set]; omega)] at h
      cases h
  · rw [List.getElem?_set_ne e] at h
    exact .inr ⟨fun z => e z.symm, h⟩
theorem io_set (c : Con K B F io σ H ρ) {i : Nat} (hi : i ∉ io.map (·.1)) (x : Option V) : ∀ p ∈ io, (σ.set i x)[p.1]? = some (some (.ref p.2)) := fun p hp => by
  rw [List.getElem?_set_ne (fun e => hi (List.mem_map.mpr ⟨p, hp, e.symm⟩))]
  exact c.io p hp
theorem Con.set_sh (c : Con K B F io σ H ρ) {i : Nat} {v : V} {d : D} (hi : i ∉ io.map (·.1)) (h : Dp K F v d) : Con K B F io (σ.set i (some v)) H (ρ.set i (.sh d)) := by
  refine ⟨by rw [List.length_set, List.length_set, c.len], c.base, c.frz, fun j e he => ?_, fun j k e1 e2 a h1 h2 o1 o2 s1 s2 => ?_, io_set c hi _⟩
  · rcases get_set_cases he with ⟨rfl, rfl, hl⟩ | ⟨ne, he⟩
    · exact ⟨some v, by rw [List.getElem?_set_self (by rw [c.len]; exact hl)], v, rfl, h⟩
    · obtain ⟨x, hx, ok⟩ := c.cell j e he
      exact ⟨x, by rw [List.getElem?_set_ne (Ne.symm ne)]; exact hx, ok⟩
  · rcases get_set_cases h1 with ⟨rfl, rfl, hl⟩ | ⟨ne1, h1⟩
    · cases o1
    · rcases get_set_cases h2 with ⟨rfl, rfl, hl⟩ | ⟨ne2, h2⟩
      · cases o2
      · rw [List.getElem?_set_ne (Ne.symm ne1)] at s1
        rw [List.getElem?_set_ne (Ne.symm ne2)] at s2
        exact c.sep j k e1 e2 a h1 h2 o1 o2 s1 s2
/-- the address is no own cell's -/
def NotOwned (σ : St) (ρ : En) (a : Addr) : Prop := ∀ (i : Nat) (c : Cell), ρ[i]? = some c → isOwn c = true → σ[i]? ≠ some (some (.ref a))
theorem Con.set_own (c : Con K B F io σ H ρ) {i : Nat} {a : Addr} {o : HO} {e0 : Cell} (hi : i ∉ io.map (·.1)) (ha : H a = some o) (ob : Ob K F e0 o) (fa : F a = none) (ba : B a = none) (no : NotOwned σ ρ a) :
    Con K B F io (σ.set i (some (.ref a))) H (ρ.set i e0) := by
  have o0 := ob_own ob
  refine ⟨by rw [List.length_set, List.length_set, c.len], c.base, c.frz, fun j e he => ?_, fun j k e1 e2 b h1 h2 o1 o2 s1 s2 => ?_, io_set c hi _⟩
  · rcases get_set_cases he with ⟨rfl, rfl, hl⟩ | ⟨ne, he⟩
    · exact ⟨some (.ref a), by rw [List.getElem?_set_self (by rw [c.len]; exact hl)], (cellOk_own o0).mpr ⟨a, o, rfl, ha, ob, fa, ba⟩⟩
    · obtain ⟨x, hx, ok⟩ := c.cell j e he
      exact ⟨x, by rw [List.getElem?_set_ne (Ne.symm ne)]; exact hx, ok⟩
  · rcases get_set_cases h1 with ⟨rfl, rfl, hl⟩ | ⟨ne1, g1⟩
    · rcases get_set_cases h2 with ⟨rfl, rfl, _⟩ | ⟨ne2, g2⟩
      · rfl
      · rw [List.getElem?_set_self (by rw [c.len]; exact hl)] at s1
        rw [List.getElem?_set_ne (Ne.symm ne2)] at s2
        cases s1
        exact absurd s2 (no k e2 g2 o2)
    · rw [List.getElem?_set_ne (Ne.symm ne1)] at s1
      rcases get_set_cases h2 with ⟨rfl, rfl, hl⟩ | ⟨ne2, g2⟩
      · rw [List.getElem?_set_self (by rw [c.len]; exact hl)] at s2
        cases s2
        exact absurd s1 (no j e1 g1 o1)
      · rw [List.getElem?_set_ne (Ne.symm ne2)] at s2
        exact c.sep j k e1 e2 b g1 g2 o1 o2 s1 s2
/-- a slot is forgotten, whatever it is given -/
theorem Con.kill (c : Con K B F io σ H ρ) (i : Nat) : Con K B F io σ H (ρ.set i .dead) := by
  refine ⟨by rw [List.length_set, c.len], c.base, c.frz, fun j e he => ?_, fun j k e1 e2 b h1 h2 o1 o2 s1 s2 => ?_, c.io⟩
  · rcases get_set_cases he with ⟨rfl, rfl, hl⟩ | ⟨ne, he⟩
    · exact ⟨σ[j]'(by rw [c.len]; exact hl), List.getElem?_eq_getElem _, trivial⟩
    · exact c.cell j e he
  · rcases get_set_cases h1 with ⟨rfl, rfl, hl⟩ | ⟨ne1, h1⟩
    · cases o1
    · rcases get_set_cases h2 with ⟨rfl, rfl, hl⟩ | ⟨ne2, h2⟩
      · cases o2
      · exact c.sep j k e1 e2 b h1 h2 o1 o2 s1 s2
theorem Con.setDead (c : Con K B F io σ H ρ) {i : Nat} (hi : i ∉ io.map (·.1)) (x : Option V) : Con K B F io (σ.set i x) H (ρ.set i .dead) := by
  refine ⟨by rw [List.length_set, List.length_set, c.len], c.base, c.frz, fun j e he => ?_, fun j k e1 e2 a h1 h2 o1 o2 s1 s2 => ?_, io_set c hi _⟩
  · rcases get_set_cases he with ⟨rfl, rfl, hl⟩ | ⟨ne, he⟩
    · exact ⟨x, by rw [List.getElem?_set_self (by rw [c.len]; exact hl)], trivial⟩
    · obtain ⟨x, hx, ok⟩ := c.cell j e he
      exact ⟨x, by rw [List.getElem?_set_ne (Ne.symm ne)]; exact hx, ok⟩
  · rcases get_set_cases h1 with ⟨rfl, rfl, hl⟩ | ⟨ne1, h1⟩
    · cases o1
    · rcases get_set_cases h2 with ⟨rfl, rfl, hl⟩ | ⟨ne2, h2⟩
      · cases o2
      · rw [List.getElem?_set_ne (Ne.symm ne1)] at s1
        rw [List.getElem?_set_ne (Ne.symm ne2)] at s2
        exact c.sep j k e1 e2 a h1 h2 o1 o2 s1 s2
theorem Con.own (c : Con K B F io σ H ρ) {i : Nat} {e : Cell} (h : ρ[i]? = some e) (o1 : isOwn e = true) : ∃ a o, σ[i]? = some (some (.ref a)) ∧ H a = some o ∧ Ob K F e o ∧ F a = none ∧ B a = none := by
  obtain ⟨x, hx, ok⟩ := c.cell i e h
  obtain ⟨a, o, h1, h2, h3, h4, h5⟩ := (cellOk_own o1).mp ok
  subst h1
  exact ⟨a, o, hx, h2, h3, h4, h5⟩
/-- the own object of slot i is written -/
theorem Con.write (c : Con K B F io σ H ρ) {i : Nat} {a : Addr} {o' : HO} {e e' : Cell} (h : ρ[i]? = some e) (o1 : isOwn e = true) (hs : σ[i]? = some (some (.ref a))) (ob : Ob K F e' o') :
    Con K B F io σ (upd H a o') (ρ.set i e') := by
  obtain ⟨a', o, h1, h2, h3, h4, h5⟩ := c.own h o1
  have ea : a' = a := by rw [hs] at h1; cases h1; rfl
  subst ea
  have o2 := ob_own ob
  have same : ∀ {G : Hp}, Same G H → G a' = none → Same G (upd H a' o') := fun {G} s n b x q => by
    rw [upd_ne (ne_of_none q n)]
    exact s b x q
  refine ⟨by rw [List.length_set, c.len], same c.base h5, same c.frz h4, fun j u he => ?_, fun j k e1 e2 b q1 q2 w1 w2 s1 s2 => ?_, c.io⟩
  · rcases get_set_cases he with ⟨rfl, rfl, hl⟩ | ⟨ne, he⟩
    · exact ⟨_, hs, (cellOk_own o2).mpr ⟨a', o', rfl, upd_same, ob, h4, h5⟩⟩
    · obtain ⟨x, hx, ok⟩ := c.cell j u he
      refine ⟨x, hx, ?_⟩
      by_cases ho : isOwn u = true
      · rw [cellOk_own ho] at ok ⊢
        obtain ⟨p, w, g1, g2, g3, g4, g5⟩ := ok
        subst g1
        refine ⟨p, w, rfl, ?_, g3, g4, g5⟩
        have np : p ≠ a' := fun z => ne (c.sep j i u e a' he h ho o1 (by rw [hx, z]) hs)
        rw [upd_ne np]
        exact g2
      · cases u with
        | dead => trivial
        | sh d => exact ok
        | _ => exact absurd rfl ho
  · rcases get_set_cases q1 with ⟨rfl, rfl, hl⟩ | ⟨ne1, g1⟩
    · rcases get_set_cases q2 with ⟨rfl, rfl, _⟩ | ⟨ne2, g2⟩
      · rfl
      · exact c.sep j k e e2 b h g2 o1 w2 s1 s2
    · rcases get_set_cases q2 with ⟨rfl, rfl, _⟩ | ⟨ne2, g2⟩
      · exact c.sep j k e1 e b g1 h w1 o1 s1 s2
      · exact c.sep j k e1 e2 b g1 g2 w1 w2 s1 s2
/-- what is frozen may be seen as new beside it -/
theorem Con.fresh_notOwned (c : Con K B F io σ H ρ) {a : Addr} (h : H a = none) : NotOwned σ ρ a := fun i e he ho q => by
  obtain ⟨p, o, h1, h2, _⟩ := c.own he ho
  rw [q] at h1
  cases h1
  rw [h] at h2
  cases h2
/-- an own list is frozen -/
theorem Con.freezeV (c : Con K B F io σ H ρ) {i : Nat} {ds : List D} (h : ρ[i]? = some (.ol ds)) : ∃ a vs, σ[i]? = some (some (.ref a)) ∧ H a = some (.lst vs) ∧ DpAll K F vs ds ∧ Gr B F (upd F a (.lst vs)) ∧ Dp K (upd F a (.lst vs)) (.ref a) (.list ds) ∧ Con K B (upd F a (.lst vs)) io σ H (ρ.set i (.sh (.list ds))) := by
  obtain ⟨a, o, h1, h2, h3, h4, h5⟩ := c.own h rfl
  cases o with
  | lst vs =>
    have ob : DpAll K F vs ds := h3
    have s1 : Same F (upd F a (.lst vs)) := same_upd h4
    have dd : Dp K (upd F a (.lst vs)) (.ref a) (.list ds) := .lst (.inl (.inl upd_same)) (dpAll_mono s1 ob)
    refine ⟨a, vs, h1, h2, ob, ⟨s1, fun b x e => ?_⟩, dd, ⟨by rw [List.length_set, c.len], c.base, fun b x e => ?_, fun j u he => ?_, fun j k e1 e2 b q1 q2 w1 w2 t1 t2 => ?_, c.io⟩⟩
    · by_cases q : b = a
      · subst q; exact .inr h5
      · rw [upd_ne q] at e; exact .inl e
    · by_cases q : b = a
      · subst q; rw [upd_same] at e; rw [h2]; exact e
      · rw [upd_ne q] at e; exact c.frz b x e
    · rcases get_set_cases he with ⟨rfl, rfl, hl⟩ | ⟨ne, he⟩
      · exact ⟨_, h1, .ref a, rfl, dd⟩
      · obtain ⟨x, hx, ok⟩ := c.cell j u he
        refine ⟨x, hx, ?_⟩
        by_cases ho : isOwn u = true
        · rw [cellOk_own ho] at ok ⊢
          obtain ⟨p, w, g1, g2, g3, g4, g5⟩ := ok
          subst g1
          refine ⟨p, w, rfl, g2, ob_mono s1 g3, ?_, g5⟩
          have np : p ≠ a := fun z => ne (c.sep j i u (.ol ds) a he h ho rfl (by rw [hx, z]) h1)
          rw [upd_ne np]
          exact g4
        · cases u with
          | dead => trivial
          | sh d => obtain ⟨v, z1, z2⟩ := ok; exact ⟨v, z1, dp_mono s1 z2⟩
          | _ => exact absurd rfl ho
    · rcases get_set_cases q1 with ⟨rfl, rfl, hl⟩ | ⟨ne1, q1⟩
      · cases w1
      · rcases get_set_cases q2 with ⟨rfl, rfl, hl⟩ | ⟨ne2, q2⟩
        · cases w2
        · exact c.sep j k e1 e2 b q1 q2 w1 w2 t1 t2
  | _ => exact False.elim h3
theorem Con.freeze (c : Con K B F io σ H ρ) {i : Nat} {ds : List D} (h : ρ[i]? = some (.ol ds)) : ∃ a F', σ[i]? = some (some (.ref a)) ∧ Gr B F F' ∧ Dp K F' (.ref a) (.list ds) ∧ Con K B F' io σ H (ρ.set i (.sh (.list ds))) := by
  obtain ⟨a, vs, h1, _, _, g, dd, c'⟩ := c.freezeV h
  exact ⟨a, _, h1, g, dd, c'⟩
end
end L2.Pd

namespace L2.Pd
open PySem PySem.Spec PyProof.Rows
/-! ## The judgements: a piece of syntax, its reading, and the plain function that it is -/
abbrev FE := En → Option (D × En)
abbrev FN := En → Option (Cell × En)
abbrev FT := En → Option (Bool × En)
abbrev FA := En → Option (List D × En)
def SE (K : PySem.W.Frag) (t : TE) (f : FE) : Prop := ∀ (B F : Hp) (io : List (Nat × Addr)) (σ : St) (H : Hp) (ρ : En) (d : D) (ρ' : En) (Q : VK), Con K B F io σ H ρ → f ρ = some (d, ρ') →
  (∀ F' H' v, Gr B F F' → Con K B F' io σ H' ρ' → Dp K F' v d → Q v H') → t σ H Q
def SN (K : PySem.W.Frag) (t : TE) (f : FN) : Prop := ∀ (B F : Hp) (io : List (Nat × Addr)) (σ : St) (H : Hp) (ρ : En) (c : Cell) (ρ' : En) (Q : VK), Con K B F io σ H ρ → f ρ = some (c, ρ') →
  (∀ F' H' a o, Gr B F F' → Con K B F' io σ H' ρ' → H' a = some o → Ob K F' c o → F' a = none → B a = none → NotOwned σ ρ' a → Q (.ref a) H') → t σ H Q
def ST (K : PySem.W.Frag) (t : TT) (f : FT) : Prop := ∀ (B F : Hp) (io : List (Nat × Addr)) (σ : St) (H : Hp) (ρ : En) (b : Bool) (ρ' : En) (Q : Bool → Hp → Prop), Con K B F io σ H ρ → f ρ = some (b, ρ') →
  (∀ F' H', Gr B F F' → Con K B F' io σ H' ρ' → Q b H') → t σ H Q
def SA (K : PySem.W.Frag) (t : TA) (f : FA) : Prop := ∀ (B F : Hp) (io : List (Nat × Addr)) (σ : St) (H : Hp) (ρ : En) (ds : List D) (ρ' : En) (Q : List V → Hp → Prop), Con K B F io σ H ρ → f ρ = some (ds, ρ') →
  (∀ F' H' vs, Gr B F F' → Con K B F' io σ H' ρ' → DpAll K F' vs ds → Q vs H') → t σ H Q
structure DE (X : Cx) (e : Expr) (t : TE) (f : FE) : Prop where
  pe : PE X e t
  se : SE X.K t f
structure DN (X : Cx) (e : Expr) (t : TE) (f : FN) : Prop where
  pe : PE X e t
  se : SN X.K t f
structure DT (X : Cx) (e : Expr) (t : TT) (f : FT) : Prop where
  pe : PT X e t
  se : ST X.K t f
structure DW (X : Cx) (e : Expr) (t : TT) (f : FT) : Prop where
  pe : PW X e t
  se : ST X.K t f
structure DA (X : Cx) (es : List Expr) (t : TA) (f : FA) : Prop where
  pe : PA X es t
  se : SA X.K t f
theorem DW.dt {X : Cx} {e : Expr} {t : TT} {f : FT} (h : DW X e t f) : DT X e t f := ⟨h.pe.pt, h.se⟩
/-! ### operations on values -/
def Op1 (K : PySem.W.Frag) (r : V → Hp → VK → Prop) (g : D → Option D) : Prop := ∀ (F H : Hp) (x : V) (dx d : D) (Q : VK), Same F H → Dp K F x dx → g dx = some d → (∀ F' H' v, Al F H F' H' → Dp K F' v d → Q v H') → r x H Q
def Op2 (K : PySem.W.Frag) (r : R2) (g : D → D → Option D) : Prop := ∀ (F H : Hp) (x y : V) (dx dy d : D) (Q : VK), Same F H → Dp K F x dx → Dp K F y dy → g dx dy = some d → (∀ F' H' v, Al F H F' H' → Dp K F' v d → Q v H') → r x y H Q
def Op2N (K : PySem.W.Frag) (r : R2) (g : D → D → Option Cell) : Prop := ∀ (F H : Hp) (x y : V) (dx dy : D) (c : Cell) (Q : VK), Same F H → Dp K F x dx → Dp K F y dy → g dx dy = some c →
  (∀ F' H' a o, Al F H F' H' → H' a = some o → Ob K F' c o → F' a = none → H a = none → Q (.ref a) H') → r x y H Q
def OpA (K : PySem.W.Frag) (r : List V → Hp → VK → Prop) (g : List D → Option D) : Prop := ∀ (F H : Hp) (xs : List V) (ds : List D) (d : D) (Q : VK), Same F H → DpAll K F xs ds → g ds = some d → (∀ F' H' v, Al F H F' H' → Dp K F' v d → Q v H') → r xs H Q
def OpAN (K : PySem.W.Frag) (r : List V → Hp → VK → Prop) (g : List D → Option Cell) : Prop := ∀ (F H : Hp) (xs : List V) (ds : List D) (c : Cell) (Q : VK), Same F H → DpAll K F xs ds → g ds = some c →
  (∀ F' H' a o, Al F H F' H' → H' a = some o → Ob K F' c o → F' a = none → H a = none → Q (.ref a) H') → r xs H Q
def OpM (K : PySem.W.Frag) (T : String) (r : V → List V → Hp → VK → Prop) (g : D → List D → Option D) : Prop := ∀ (F H : Hp) (x : V) (xs : List V) (dx : D) (ds : List D) (d : D) (Q : VK), Same F H → Dp K F x dx → DpAll K F xs ds → g dx ds = some d →
  (∀ F' H' v, Al F H F' H' → Dp K F' v d → Q v H') → r x xs H Q
/-- a new list may be frozen -/
theorem al_freeze {K : PySem.W.Frag} {F H F' H' : Hp} {a : Addr} {ds : List D} {o : HO} (al : Al F H F' H') (ha : H' a = some o) (ob : Ob K F' (.ol ds) o) (fa : F' a = none) (na : H a = none) :
    ∃ F2, Al F H F2 H' ∧ Dp K F2 (.ref a) (.list ds) := by
  cases o with
  | lst vs =>
    have s1 : Same F' (upd F' a (.lst vs)) := same_upd fa
    refine ⟨upd F' a (.lst vs), ⟨al.ff.trans s1, al.hh, fun b x e => ?_, fun b x e => ?_⟩, .lst (.inl (.inl upd_same)) (dpAll_mono s1 ob)⟩
    · by_cases q : b = a
      · subst q; rw [upd_same] at e; rw [ha]; exact e
      · rw [upd_ne q] at e; exact al.sub b x e
    · by_cases q : b = a
      · subst q; exact .inr na
      · rw [upd_ne q] at e; exact al.new b x e
  | _ => exact False.elim ob
def frzC : Cell → Option D
  | .ol ds => some (.list ds)
  | _ => none
theorem Op2N.frz {K : PySem.W.Frag} {r : R2} {g : D → D → Option Cell} (h : Op2N K r g) : Op2 K r (fun x y => (g x y).bind frzC) := by
  intro F H x y dx dy d Q s hx hy e k
  obtain ⟨c, e1, e2⟩ := Option.bind_eq_some_iff.mp e
  refine h F H x y dx dy c Q s hx hy e1 fun F' H' a o al ha ob fa na => ?_
  cases c with
  | ol ds =>
    cases e2
    obtain ⟨F2, al2, dd⟩ := al_freeze al ha ob fa na
    exact k F2 H' _ al2 dd
  | _ => cases e2
theorem OpAN.frz {K : PySem.W.Frag} {r : List V → Hp → VK → Prop} {g : List D → Option Cell} (h : OpAN K r g) : OpA K r (fun x => (g x).bind frzC) := by
  intro F H x dx d Q s hx e k
  obtain ⟨c, e1, e2⟩ := Option.bind_eq_some_iff.mp e
  refine h F H x dx c Q s hx e1 fun F' H' a o al ha ob fa na => ?_
  cases c with
  | ol ds =>
    cases e2
    obtain ⟨F2, al2, dd⟩ := al_freeze al ha ob fa na
    exact k F2 H' _ al2 dd
  | _ => cases e2
/-! ### names, constants -/
def eVar (i : Nat) : FE := fun ρ => match ρ[i]? with
  | some (.sh d) => some (d, ρ)
  | some (.ol ds) => some (.list ds, ρ.set i (.sh (.list ds)))
  | _ => none
def eC (d : D) : FE := fun ρ => some (d, ρ)
section
variable {X : Cx}
theorem se_var {K : PySem.W.Frag} (i : Nat) : SE K (tVar i) (eVar i) := by
  intro B F io σ H ρ d ρ' Q c h k
  unfold eVar at h
  cases e : ρ[i]? with
  | none => rw [e] at h; cases h
  | some u =>
    rw [e] at h
    cases u with
    | sh d0 =>
      cases h
      obtain ⟨x, hx, v, rfl, dd⟩ := c.cell i _ e
      exact ⟨v, hx, k F H v (Gr.refl _ _) c dd⟩
    | ol ds =>
      cases h
      obtain ⟨a, F', h1, g, dd, c'⟩ := c.freeze e
      exact ⟨.ref a, h1, k F' H _ g c' dd⟩
    | _ => cases h
theorem de_var (i : Nat) {x : Str} {pos : Pos} (hN : X.N[i]? = some x := by rfl) (hv : Vis X.env.scope x := by first | exact Or.inl rfl | exact Or.inr (Or.inl rfl) | exact Or.inr (Or.inr rfl)) (hd : (x == ("__debug__" : Str)) = false := by decide)
    (hcd : (x == ("__classdict__" : Str)) = false := by decide) : DE X (.Name x pos) (tVar i) (eVar i) := ⟨pe_var hN hv hd hcd, se_var i⟩
theorem se_c {K : PySem.W.Frag} {v : V} {d : D} (h : ∀ F, Dp K F v d) : SE K (tC v) (eC d) := by
  intro B F io σ H ρ d' ρ' Q c e k
  cases e
  exact k F H v (Gr.refl _ _) c (h F)
theorem de_int {i : Int} {j pos} : DE X (.Constant (.int i) j pos) (tC (.int i)) (eC (.int i)) := ⟨pe_int, se_c fun _ => .int i⟩
theorem de_bl {b : Bool} {j pos} : DE X (.Constant (.bool b) j pos) (tC (.bl b)) (eC (.bool b)) := ⟨pe_bl, se_c fun _ => .bl b⟩
theorem de_non {j pos} : DE X (.Constant .none j pos) (tC .non) (eC .none) := ⟨pe_non, se_c fun _ => .non⟩
theorem de_str {x : Str} {j pos} : DE X (.Constant (.str x) j pos) (tC (.str x)) (eC (.str x)) := ⟨pe_str, se_c fun _ => .str x⟩
/-- a module's constant -/
theorem de_glob {x : Str} {v : V} {u : Value} {d : D} {pos : Pos} (hm : X.mg x = some u) (r : RelV v u) (h : ∀ F, Dp X.K F v d) (hg : Gl X x := by rfl) (hd : (x == ("__debug__" : Str)) = false := by decide) : DE X (.Name x pos) (tC v) (eC d) :=
  ⟨pe_glob hg hm r hd, se_c h⟩
end
/-! ### operators -/
def eBin (g : D → D → Option D) (fa fb : FE) : FE := fun ρ => (fa ρ).bind fun p => (fb p.2).bind fun q => (g p.1 q.1).map fun d => (d, q.2)
def eBinN (g : D → D → Option Cell) (fa fb : FE) : FN := fun ρ => (fa ρ).bind fun p => (fb p.2).bind fun q => (g p.1 q.1).map fun d => (d, q.2)
def eUn (g : D → Option D) (fa : FE) : FE := fun ρ => (fa ρ).bind fun p => (g p.1).map fun d => (d, p.2)
theorem se_bin {K : PySem.W.Frag} {r : R2} {g : D → D → Option D} {ta tb : TE} {fa fb : FE} (hg : Op2 K r g) (ha : SE K ta fa) (hb : SE K tb fb) : SE K (tOp r ta tb) (eBin g fa fb) := by
  intro B F io σ H ρ d ρ' Q c h k
  obtain ⟨p, e1, h⟩ := Option.bind_eq_some_iff.mp h
  obtain ⟨q, e2, h⟩ := Option.bind_eq_some_iff.mp h
  obtain ⟨z, e3, h⟩ := Option.map_eq_some_iff.mp h
  cases h
  refine ha B F io σ H ρ p.1 p.2 _ c e1 fun F1 H1 x g1 c1 d1 => ?_
  refine hb B F1 io σ H1 p.2 q.1 q.2 _ c1 e2 fun F2 H2 y g2 c2 d2 => ?_
  exact hg F2 H2 x y p.1 q.1 d Q c2.frz (dp_mono g2.sub d1) d2 e3 fun F3 H3 v al d3 => k F3 H3 v ((g1.trans g2).trans (al.gr c2.base)) (c2.al al) d3
theorem notOwned_fresh {K : PySem.W.Frag} {B F H : Hp} {io : List (Nat × Addr)} {σ : St} {ρ : En} {a : Addr} (c : Con K B F io σ H ρ) (h : H a = none) : NotOwned σ ρ a := c.fresh_notOwned h
theorem se_binN {K : PySem.W.Frag} {r : R2} {g : D → D → Option Cell} {ta tb : TE} {fa fb : FE} (hg : Op2N K r g) (ha : SE K ta fa) (hb : SE K tb fb) : SN K (tOp r ta tb) (eBinN g fa fb) := by
  intro B F io σ H ρ d ρ' Q c h k
  obtain ⟨p, e1, h⟩ := Option.bind_eq_some_iff.mp h
  obtain ⟨q, e2, h⟩ := Option.bind_eq_some_iff.mp h
  obtain ⟨z, e3, h⟩ := Option.map_eq_some_iff.mp h
  cases h
  refine ha B F io σ H ρ p.1 p.2 _ c e1 fun F1 H1 x g1 c1 d1 => ?_
  refine hb B F1 io σ H1 p.2 q.1 q.2 _ c1 e2 fun F2 H2 y g2 c2 d2 => ?_
  exact hg F2 H2 x y p.1 q.1 d Q c2.frz (dp_mono g2.sub d1) d2 e3 fun F3 H3 a o al ha ob fa na => k F3 H3 a o ((g1.trans g2).trans (al.gr c2.base)) (c2.al al) ha ob fa (c2.base.free na) (c2.fresh_notOwned na)
theorem se_un {K : PySem.W.Frag} {r : V → Hp → VK → Prop} {g : D → Option D} {ta : TE} {fa : FE} (hg : Op1 K r g) (ha : SE K ta fa) : SE K (tUn r ta) (eUn g fa) := by
  intro B F io σ H ρ d ρ' Q c h k
  obtain ⟨p, e1, h⟩ := Option.bind_eq_some_iff.mp h
  obtain ⟨z, e3, h⟩ := Option.map_eq_some_iff.mp h
  cases h
  refine ha B F io σ H ρ p.1 p.2 _ c e1 fun F1 H1 x g1 c1 d1 => ?_
  exact hg F1 H1 x p.1 d Q c1.frz d1 e3 fun F3 H3 v al d3 => k F3 H3 v (g1.trans (al.gr c1.base)) (c1.al al) d3
section
variable {X : Cx} {a b c : Expr} {ta tb tc : TE} {fa fb fc : FE} {pos : Pos}
theorem de_bin {op : Operator} {r : R2} {g : D → D → Option D} (ho : OpR X (binaryOp op) r) (hg : Op2 X.K r g) (ha : DE X a ta fa) (hb : DE X b tb fb) : DE X (.BinOp a op b pos) (tOp r ta tb) (eBin g fa fb) :=
  ⟨pe_op ho ha.pe hb.pe, se_bin hg ha.se hb.se⟩
theorem dn_bin {op : Operator} {r : R2} {g : D → D → Option Cell} (ho : OpR X (binaryOp op) r) (hg : Op2N X.K r g) (ha : DE X a ta fa) (hb : DE X b tb fb) : DN X (.BinOp a op b pos) (tOp r ta tb) (eBinN g fa fb) :=
  ⟨pe_op ho ha.pe hb.pe, se_binN hg ha.se hb.se⟩
theorem de_un {op : UnaryOp} {r : V → Hp → VK → Prop} {g : D → Option D} (ho : UnR X (unaryOp op) r) (hg : Op1 X.K r g) (ha : DE X a ta fa) : DE X (.UnaryOp op a pos) (tUn r ta) (eUn g fa) :=
  ⟨pe_un ho ha.pe, se_un hg ha.se⟩
/-- a comparison as a value -/
theorem de_cmp {op : CmpOp} {r : R2} {g : D → D → Option D} (ho : OpR X (compareOp op) r) (hg : Op2 X.K r g) (ha : DE X a ta fa) (hb : DE X b tb fb) (hm : behindInMarks op b = false := by first | exact nomark _ | rfl) : DE X (.Compare a [op] [b] pos) (tOp r ta tb) (eBin g fa fb) :=
  ⟨pe_cmpR ho ha.pe hb.pe hm, se_bin hg ha.se hb.se⟩
def tstD : D → Option Bool
  | .bool b => some b
  | _ => none
def eTst (f : FE) : FT := fun ρ => (f ρ).bind fun p => (tstD p.1).map fun b => (b, p.2)
theorem st_tst {K : PySem.W.Frag} {t : TE} {f : FE} (h : SE K t f) : ST K (tTest t) (eTst f) := by
  intro B F io σ H ρ b ρ' Q c e k
  obtain ⟨p, e1, e⟩ := Option.bind_eq_some_iff.mp e
  obtain ⟨z, e3, e⟩ := Option.map_eq_some_iff.mp e
  cases e
  refine h B F io σ H ρ p.1 p.2 _ c e1 fun F1 H1 x g1 c1 d1 => ?_
  cases hp : p.1 <;> rw [hp] at e3 d1 <;> cases e3
  cases d1
  exact ⟨_, rfl, k F1 H1 g1 c1⟩
theorem dt_cmp {op : CmpOp} {r : R2} {g : D → D → Option D} (ho : OpR X (compareOp op) r) (hg : Op2 X.K r g) (ha : DE X a ta fa) (hb : DE X b tb fb) (hm : behindInMarks op b = false := by first | exact nomark _ | rfl) : DT X (.Compare a [op] [b] pos) (tTest (tOp r ta tb)) (eTst (eBin g fa fb)) :=
  ⟨pt_cmpR ho ha.pe hb.pe hm, st_tst (se_bin hg ha.se hb.se)⟩
/-- a op1 b op2 c -/
def eChain (g g' : D → D → Option D) (fa fb fc : FE) : FE := fun ρ => (fa ρ).bind fun p => (fb p.2).bind fun q => ((g p.1 q.1).bind tstD).bind fun k =>
  if k = true then (fc q.2).bind fun s => (g' q.1 s.1).map fun d => (d, s.2) else some (.bool false, q.2)
theorem se_chain {K : PySem.W.Frag} {r r' : R2} {g g' : D → D → Option D} (hg : Op2 K r g) (hg' : Op2 K r' g') (ha : SE K ta fa) (hb : SE K tb fb) (hc : SE K tc fc) : SE K (tChain r r' ta tb tc) (eChain g g' fa fb fc) := by
  intro B F io σ H ρ d ρ' Q c h k
  obtain ⟨p, e1, h⟩ := Option.bind_eq_some_iff.mp h
  obtain ⟨q, e2, h⟩ := Option.bind_eq_some_iff.mp h
  obtain ⟨z, e3, h⟩ := Option.bind_eq_some_iff.mp h
  obtain ⟨w, e3, e4⟩ := Option.bind_eq_some_iff.mp e3
  refine ha B F io σ H ρ p.1 p.2 _ c e1 fun F1 H1 x g1 c1 d1 => ?_
  refine hb B F1 io σ H1 p.2 q.1 q.2 _ c1 e2 fun F2 H2 y g2 c2 d2 => ?_
  refine hg F2 H2 x y p.1 q.1 w _ c2.frz (dp_mono g2.sub d1) d2 e3 fun F3 H3 v al d3 => ?_
  cases w <;> cases e4
  cases d3
  refine ⟨z, rfl, ?_⟩
  have g3 := (g1.trans g2).trans (al.gr c2.base)
  have c3 := c2.al al
  cases z with
  | false =>
    rw [if_neg Bool.false_ne_true] at h ⊢
    cases h
    exact k F3 H3 _ g3 c3 (.bl false)
  | true =>
    rw [if_pos rfl] at h ⊢
    obtain ⟨s, e5, h⟩ := Option.bind_eq_some_iff.mp h
    obtain ⟨u, e6, h⟩ := Option.map_eq_some_iff.mp h
    cases h
    refine hc B F3 io σ H3 q.2 s.1 s.2 _ c3 e5 fun F4 H4 x4 g4 c4 d4 => ?_
    exact hg' F4 H4 y x4 q.1 s.1 d Q c4.frz (dp_mono (al.ff.trans g4.sub) d2) d4 e6 fun F5 H5 v5 al5 d5 => k F5 H5 v5 ((g3.trans g4).trans (al5.gr c4.base)) (c4.al al5) d5
theorem de_chain {op op' : CmpOp} {r r' : R2} {g g' : D → D → Option D} (ho : OpR X (compareOp op) r) (hg : Op2 X.K r g) (ho' : OpR X (compareOp op') r') (hg' : Op2 X.K r' g') (ha : DE X a ta fa) (hb : DE X b tb fb) (hc : DE X c tc fc)
    (hm : lastMarks [op, op'] [b, c] = false := by with_unfolding_all rfl) : DE X (.Compare a [op, op'] [b, c] pos) (tChain r r' ta tb tc) (eChain g g' fa fb fc) :=
  ⟨pe_chain ho ho' ha.pe hb.pe hc.pe hm, se_chain hg hg' ha.se hb.se hc.se⟩
theorem dt_chain {op op' : CmpOp} {r r' : R2} {g g' : D → D → Option D} (ho : OpR X (compareOp op) r) (hg : Op2 X.K r g) (ho' : OpR X (compareOp op') r') (hg' : Op2 X.K r' g') (ha : DE X a ta fa) (hb : DE X b tb fb) (hc : DE X c tc fc)
    (hm : lastMarks [op, op'] [b, c] = false := by with_unfolding_all rfl) : DT X (.Compare a [op, op'] [b, c] pos) (tTest (tChain r r' ta tb tc)) (eTst (eChain g g' fa fb fc)) :=
  ⟨pt_chain ho ho' ha.pe hb.pe hc.pe hm, st_tst (se_chain hg hg' ha.se hb.se hc.se)⟩
/-! ### truth, and, or, not, if -/
def truD : D → Option Bool
  | .none => some false
  | .bool b => some b
  | .int i => some (i != 0)
  | .str x => if x.length ≤ sizeLine then some ((x.length : Int) != 0) else none
  | .list ds => some (!ds.isEmpty)
  | .tuple ds => some (!ds.isEmpty)
  | .dict _ => none
def eTru (f : FE) : FT := fun ρ => (f ρ).bind fun p => (truD p.1).map fun b => (b, p.2)
theorem isEmpty_dp {K : PySem.W.Frag} {F : Hp} {vs : List V} {ds : List D} (h : DpAll K F vs ds) : vs.isEmpty = ds.isEmpty := by
  cases h <;> rfl
theorem tru_dp {K : PySem.W.Frag} {F H : Hp} {v : V} {d : D} {b : Bool} (s : Same F H) (h : Dp K F v d) (e : truD d = some b) : TruV K v H b := by
  cases h with
  | non => cases e; rfl
  | bl b => cases e; rfl
  | int i => cases e; rfl
  | str x =>
    have e : (if x.length ≤ sizeLine then some ((x.length : Int) != 0) else none) = some b := e
    by_cases hz : x.length ≤ sizeLine
    · rw [if_pos hz] at e; cases e; exact ⟨hz, rfl⟩
    · rw [if_neg hz] at e; cases e
  | lst q r => cases e; exact .inl ⟨_, s.seq q, by rw [isEmpty_dp r]⟩
  | tup q r => cases e; exact .inr (.inl ⟨_, sqT_mono s q, by rw [isEmpty_dp r]⟩)
theorem st_tru {K : PySem.W.Frag} {t : TE} {f : FE} (h : SE K t f) : ST K (fun σ H Q => t σ H fun x H' => ∃ k, TruV K x H' k ∧ Q k H') (eTru f) := by
  intro B F io σ H ρ b ρ' Q c e k
  obtain ⟨p, e1, e⟩ := Option.bind_eq_some_iff.mp e
  obtain ⟨z, e3, e⟩ := Option.map_eq_some_iff.mp e
  cases e
  exact h B F io σ H ρ p.1 p.2 _ c e1 fun F1 H1 x g1 c1 d1 => ⟨b, tru_dp c1.frz d1 e3, k F1 H1 g1 c1⟩
theorem dt_tru (ha : DE X a ta fa) (he : ∀ whole, isTrue a X.env whole = (do let v ← whole; standAt a.pos; holding [v] (truthy v)) := by intro _; rfl) :
    DT X a (fun σ H Q => ta σ H fun x H' => ∃ k, TruV X.K x H' k ∧ Q k H') (eTru fa) := ⟨pt_truth ha.pe he, st_tru ha.se⟩
def eAnd (fa fb : FT) : FT := fun ρ => (fa ρ).bind fun p => if p.1 = true then fb p.2 else some (false, p.2)
def eOr (fa fb : FT) : FT := fun ρ => (fa ρ).bind fun p => if p.1 = true then some (true, p.2) else fb p.2
def eNot (fa : FT) : FT := fun ρ => (fa ρ).map fun p => (!p.1, p.2)
variable {tA tB' : TT} {fA fB : FT} {rest : List Expr}
theorem st_and {K : PySem.W.Frag} (ha : ST K tA fA) (hb : ST K tB' fB) : ST K (tAnd tA tB') (eAnd fA fB) := by
  intro B F io σ H ρ b ρ' Q c e k
  obtain ⟨p, e1, e⟩ := Option.bind_eq_some_iff.mp e
  refine ha B F io σ H ρ p.1 p.2 _ c e1 fun F1 H1 g1 c1 => ?_
  by_cases hp : p.1 = true
  · rw [if_pos hp] at e ⊢
    exact hb B F1 io σ H1 p.2 b ρ' Q c1 e fun F2 H2 g2 c2 => k F2 H2 (g1.trans g2) c2
  · rw [if_neg hp] at e ⊢
    cases e
    exact k F1 H1 g1 c1
theorem st_or {K : PySem.W.Frag} (ha : ST K tA fA) (hb : ST K tB' fB) : ST K (tOr tA tB') (eOr fA fB) := by
  intro B F io σ H ρ b ρ' Q c e k
  obtain ⟨p, e1, e⟩ := Option.bind_eq_some_iff.mp e
  refine ha B F io σ H ρ p.1 p.2 _ c e1 fun F1 H1 g1 c1 => ?_
  by_cases hp : p.1 = true
  · rw [if_pos hp] at e ⊢
    cases e
    exact k F1 H1 g1 c1
  · rw [if_neg hp] at e ⊢
    exact hb B F1 io σ H1 p.2 b ρ' Q c1 e fun F2 H2 g2 c2 => k F2 H2 (g1.trans g2) c2
theorem st_not {K : PySem.W.Frag} (ha : ST K tA fA) : ST K (tNot tA) (eNot fA) := by
  intro B F io σ H ρ b ρ' Q c e k
  obtain ⟨p, e1, e⟩ := Option.map_eq_some_iff.mp e
  cases e
  exact ha B F io σ H ρ p.1 p.2 _ c e1 fun F1 H1 g1 c1 => k F1 H1 g1 c1
theorem dw_and1 (ha : DT X a tA fA) : DW X (.BoolOp .And [a] pos) tA fA := ⟨pw_and1 ha.pe, ha.se⟩
theorem dw_or1 (ha : DT X a tA fA) : DW X (.BoolOp .Or [a] pos) tA fA := ⟨pw_or1 ha.pe, ha.se⟩
theorem dw_and (ha : DT X a tA fA) (hb : DW X (.BoolOp .And (b :: rest) pos) tB' fB) : DW X (.BoolOp .And (a :: b :: rest) pos) (tAnd tA tB') (eAnd fA fB) := ⟨pw_and ha.pe hb.pe, st_and ha.se hb.se⟩
theorem dw_or (ha : DT X a tA fA) (hb : DW X (.BoolOp .Or (b :: rest) pos) tB' fB) : DW X (.BoolOp .Or (a :: b :: rest) pos) (tOr tA tB') (eOr fA fB) := ⟨pw_or ha.pe hb.pe, st_or ha.se hb.se⟩
theorem dt_not (ha : DT X a tA fA) : DT X (.UnaryOp .Not a pos) (tNot tA) (eNot fA) := ⟨pt_not ha.pe, st_not ha.se⟩
/-- and, or, not as values, by truth -/
def eAndV (fa fb : FE) : FE := fun ρ => (fa ρ).bind fun p => (truD p.1).bind fun k => if k = true then fb p.2 else some p
def eOrV (fa fb : FE) : FE := fun ρ => (fa ρ).bind fun p => (truD p.1).bind fun k => if k = true then some p else fb p.2
def eNotV (fa : FE) : FE := fun ρ => (fa ρ).bind fun p => (truD p.1).map fun k => (.bool (!k), p.2)
theorem de_one {op} (h : DE X a ta fa) : DE X (.BoolOp op [a] pos) ta fa := ⟨pe_one h.pe, h.se⟩
theorem se_andV {K : PySem.W.Frag} (ha : SE K ta fa) (hb : SE K tb fb) : SE K (tAndT K ta tb) (eAndV fa fb) := by
  intro B F io σ H ρ d ρ' Q c e k
  obtain ⟨p, e1, e⟩ := Option.bind_eq_some_iff.mp e
  obtain ⟨z, e2, e⟩ := Option.bind_eq_some_iff.mp e
  refine ha B F io σ H ρ p.1 p.2 _ c e1 fun F1 H1 x g1 c1 d1 => ⟨z, tru_dp c1.frz d1 e2, ?_⟩
  by_cases hp : z = true
  · rw [if_pos hp] at e ⊢
    exact hb B F1 io σ H1 p.2 d ρ' Q c1 e fun F2 H2 v g2 c2 d2 => k F2 H2 v (g1.trans g2) c2 d2
  · rw [if_neg hp] at e ⊢
    cases e
    exact k F1 H1 x g1 c1 d1
theorem se_orV {K : PySem.W.Frag} (ha : SE K ta fa) (hb : SE K tb fb) : SE K (tOrT K ta tb) (eOrV fa fb) := by
  intro B F io σ H ρ d ρ' Q c e k
  obtain ⟨p, e1, e⟩ := Option.bind_eq_some_iff.mp e
  obtain ⟨z, e2, e⟩ := Option.bind_eq_some_iff.mp e
  refine ha B F io σ H ρ p.1 p.2 _ c e1 fun F1 H1 x g1 c1 d1 => ⟨z, tru_dp c1.frz d1 e2, ?_⟩
  by_cases hp : z = true
  · rw [if_pos hp] at e ⊢
    cases e
    exact k F1 H1 x g1 c1 d1
  · rw [if_neg hp] at e ⊢
    exact hb B F1 io σ H1 p.2 d ρ' Q c1 e fun F2 H2 v g2 c2 d2 => k F2 H2 v (g1.trans g2) c2 d2
theorem se_notV {K : PySem.W.Frag} (ha : SE K ta fa) : SE K (tNotT K ta) (eNotV fa) := by
  intro B F io σ H ρ d ρ' Q c e k
  obtain ⟨p, e1, e⟩ := Option.bind_eq_some_iff.mp e
  obtain ⟨z, e2, e⟩ := Option.map_eq_some_iff.mp e
  cases e
  exact ha B F io σ H ρ p.1 p.2 _ c e1 fun F1 H1 x g1 c1 d1 => ⟨z, tru_dp c1.frz d1 e2, k F1 H1 _ g1 c1 (.bl _)⟩
theorem de_and (ha : DE X a ta fa) (hb : DE X (.BoolOp .And (b :: rest) pos) tb fb) : DE X (.BoolOp .And (a :: b :: rest) pos) (tAndT X.K ta tb) (eAndV fa fb) := ⟨pe_andT ha.pe hb.pe, se_andV ha.se hb.se⟩
theorem de_or (ha : DE X a ta fa) (hb : DE X (.BoolOp .Or (b :: rest) pos) tb fb) : DE X (.BoolOp .Or (a :: b :: rest) pos) (tOrT X.K ta tb) (eOrV fa fb) := ⟨pe_orT ha.pe hb.pe, se_orV ha.se hb.se⟩
theorem de_not (ha : DE X a ta fa) : DE X (.UnaryOp .Not a pos) (tNotT X.K ta) (eNotV fa) := ⟨pe_notT ha.pe, se_notV ha.se⟩
def eIf (fc : FT) (fa fb : FE) : FE := fun ρ => (fc ρ).bind fun p => if p.1 = true then fa p.2 else fb p.2
def eIfN (fc : FT) (fa fb : FN) : FN := fun ρ => (fc ρ).bind fun p => if p.1 = true then fa p.2 else fb p.2
theorem de_if (hc : DT X c tA fA) (ha : DE X a ta fa) (hb : DE X b tb fb) : DE X (.IfExp c a b pos) (tIf tA ta tb) (eIf fA fa fb) := by
  refine ⟨pe_ifExp hc.pe ha.pe hb.pe, ?_⟩
  intro B F io σ H ρ d ρ' Q c e k
  obtain ⟨p, e1, e⟩ := Option.bind_eq_some_iff.mp e
  refine hc.se B F io σ H ρ p.1 p.2 _ c e1 fun F1 H1 g1 c1 => ?_
  by_cases hp : p.1 = true
  · rw [if_pos hp] at e ⊢
    exact ha.se B F1 io σ H1 p.2 d ρ' Q c1 e fun F2 H2 v g2 c2 d2 => k F2 H2 v (g1.trans g2) c2 d2
  · rw [if_neg hp] at e ⊢
    exact hb.se B F1 io σ H1 p.2 d ρ' Q c1 e fun F2 H2 v g2 c2 d2 => k F2 H2 v (g1.trans g2) c2 d2
theorem dn_if {fa fb : FN} (hc : DT X c tA fA) (ha : DN X a ta fa) (hb : DN X b tb fb) : DN X (.IfExp c a b pos) (tIf tA ta tb) (eIfN fA fa fb) := by
  refine ⟨pe_ifExp hc.pe ha.pe hb.pe, ?_⟩
  intro B F io σ H ρ d ρ' Q c e k
  obtain ⟨p, e1, e⟩ := Option.bind_eq_some_iff.mp e
  refine hc.se B F io σ H ρ p.1 p.2 _ c e1 fun F1 H1 g1 c1 => ?_
  by_cases hp : p.1 = true
  · rw [if_pos hp] at e ⊢
    exact ha.se B F1 io σ H1 p.2 d ρ' Q c1 e fun F2 H2 v o g2 c2 h1 h2 h3 h4 h5 => k F2 H2 v o (g1.trans g2) c2 h1 h2 h3 h4 h5
  · rw [if_neg hp] at e ⊢
    exact hb.se B F1 io σ H1 p.2 d ρ' Q c1 e fun F2 H2 v o g2 c2 h1 h2 h3 h4 h5 => k F2 H2 v o (g1.trans g2) c2 h1 h2 h3 h4 h5
/-! ### argument lists, displays -/
def aNil : FA := fun ρ => some ([], ρ)
def aCons (f : FE) (g : FA) : FA := fun ρ => (f ρ).bind fun p => (g p.2).map fun q => (p.1 :: q.1, q.2)
theorem da_nil : DA X [] tNil aNil := ⟨pa_nil, fun B F io σ H ρ ds ρ' Q c e k => by
  cases e
  exact k F H [] (Gr.refl _ _) c .nil⟩
theorem da_cons {e : Expr} {es : List Expr} {t : TA} {g : FA} (ha : DE X e ta fa) (hr : DA X es t g) (hs : starEach (e :: es) X.env = (false, eval e X.env) :: starEach es X.env := by rfl) : DA X (e :: es) (tCons ta t) (aCons fa g) :=
  ⟨pa_cons ha.pe hr.pe hs, fun B F io σ H ρ ds ρ' Q c h k => by
    obtain ⟨p, e1, h⟩ := Option.bind_eq_some_iff.mp h
    obtain ⟨q, e2, h⟩ := Option.map_eq_some_iff.mp h
    cases h
    refine ha.se B F io σ H ρ p.1 p.2 _ c e1 fun F1 H1 x g1 c1 d1 => ?_
    exact hr.se B F1 io σ H1 p.2 q.1 q.2 _ c1 e2 fun F2 H2 xs g2 c2 d2 => k F2 H2 (x :: xs) (g1.trans g2) c2 (.cons (dp_mono g2.sub d1) d2)⟩
def eTup (g : FA) : FE := fun ρ => (g ρ).bind fun p => if p.1.length ≤ sizeLine then some (.tuple p.1, p.2) else none
def eLst (g : FA) : FN := fun ρ => (g ρ).bind fun p => if p.1.length ≤ sizeLine then some (.ol p.1, p.2) else none
theorem de_tup {es : List Expr} {t : TA} {g : FA} {x1} (h : DA X es t g) : DE X (.Tuple es x1 pos) (tTup t) (eTup g) := by
  refine ⟨pe_tup h.pe, ?_⟩
  intro B F io σ H ρ d ρ' Q c e k
  obtain ⟨p, e1, e⟩ := Option.bind_eq_some_iff.mp e
  by_cases hz : p.1.length ≤ sizeLine
  · rw [if_pos hz] at e
    cases e
    refine h.se B F io σ H ρ p.1 p.2 _ c e1 fun F1 H1 xs g1 c1 d1 => ⟨by rw [d1.length]; exact hz, fun a na => ?_⟩
    have al := Al.laid (o := .tup xs) c1.frz na
    exact k _ _ _ (g1.trans (al.gr c1.base)) (c1.al al) (.tup (.inl (.inl upd_same)) (dpAll_mono al.ff d1))
  · rw [if_neg hz] at e
    cases e
theorem dn_lst {es : List Expr} {t : TA} {g : FA} (h : DA X es t g) : DN X (.List es pos) (tLst t) (eLst g) := by
  refine ⟨pe_lst h.pe, ?_⟩
  intro B F io σ H ρ d ρ' Q c e k
  obtain ⟨p, e1, e⟩ := Option.bind_eq_some_iff.mp e
  by_cases hz : p.1.length ≤ sizeLine
  · rw [if_pos hz] at e
    cases e
    refine h.se B F io σ H ρ p.1 p.2 _ c e1 fun F1 H1 xs g1 c1 d1 => ⟨by rw [d1.length]; exact hz, fun a na => ?_⟩
    have al := Al.laidH (o := .lst xs) c1.frz na
    exact k _ _ a (.lst xs) (g1.trans (al.gr c1.base)) (c1.al al) upd_same d1 (c1.frz.free na) (c1.base.free na) (c1.fresh_notOwned na)
  · rw [if_neg hz] at e
    cases e
/-- a new list, frozen at once -/
def eFrz (f : FN) : FE := fun ρ => (f ρ).bind fun p => (frzC p.1).map fun d => (d, p.2)
theorem se_frz {K : PySem.W.Frag} {t : TE} {f : FN} (h : SN K t f) : SE K t (eFrz f) := by
  intro B F io σ H ρ d ρ' Q c e k
  obtain ⟨p, e1, e⟩ := Option.bind_eq_some_iff.mp e
  obtain ⟨z, e2, e⟩ := Option.map_eq_some_iff.mp e
  cases e
  refine h B F io σ H ρ p.1 p.2 _ c e1 fun F1 H1 a o g1 c1 ha ob fa ba no => ?_
  cases hp : p.1 with
  | ol ds =>
    rw [hp] at e2 ob
    cases e2
    cases o with
    | lst vs =>
      have s1 : Same F1 (upd F1 a (.lst vs)) := same_upd fa
      have gr : Gr B F1 (upd F1 a (.lst vs)) := ⟨s1, fun b x e => by
        by_cases q : b = a
        · subst q; exact .inr ba
        · rw [upd_ne q] at e; exact .inl e⟩
      refine k (upd F1 a (.lst vs)) H1 _ (g1.trans gr) ⟨c1.len, c1.base, fun b x e => ?_, fun i u hu => ?_, c1.sep, c1.io⟩ (.lst (.inl (.inl upd_same)) (dpAll_mono s1 ob))
      · by_cases q : b = a
        · subst q; rw [upd_same] at e; rw [ha]; exact e
        · rw [upd_ne q] at e; exact c1.frz b x e
      · obtain ⟨x, hx, ok⟩ := c1.cell i u hu
        refine ⟨x, hx, ?_⟩
        by_cases ho : isOwn u = true
        · rw [cellOk_own ho] at ok ⊢
          obtain ⟨q, w, z1, z2, z3, z4, z5⟩ := ok
          subst z1
          refine ⟨q, w, rfl, z2, ob_mono s1 z3, ?_, z5⟩
          rw [upd_ne (fun z => no i u hu ho (by rw [hx, z]))]
          exact z4
        · cases u with
          | dead => trivial
          | sh d => obtain ⟨v, z1, z2⟩ := ok; exact ⟨v, z1, dp_mono s1 z2⟩
          | _ => exact absurd rfl ho
    | _ => exact False.elim ob
  | _ => rw [hp] at e2; cases e2
theorem DN.de {f : FN} (h : DN X a ta f) : DE X a ta (eFrz f) := ⟨h.pe, se_frz h.se⟩
/-! ### calls of built-in things -/
def eCB (g : List D → Option D) (fa : FA) : FE := fun ρ => (fa ρ).bind fun p => (g p.1).map fun d => (d, p.2)
def eCBN (g : List D → Option Cell) (fa : FA) : FN := fun ρ => (fa ρ).bind fun p => (g p.1).map fun d => (d, p.2)
theorem se_cb {K : PySem.W.Frag} {r : List V → Hp → VK → Prop} {g : List D → Option D} {t : TA} {fa : FA} (hg : OpA K r g) (ha : SA K t fa) : SE K (tCB r t) (eCB g fa) := by
  intro B F io σ H ρ d ρ' Q c h k
  obtain ⟨p, e1, h⟩ := Option.bind_eq_some_iff.mp h
  obtain ⟨z, e3, h⟩ := Option.map_eq_some_iff.mp h
  cases h
  refine ha B F io σ H ρ p.1 p.2 _ c e1 fun F1 H1 xs g1 c1 d1 => ?_
  exact hg F1 H1 xs p.1 d Q c1.frz d1 e3 fun F3 H3 v al d3 => k F3 H3 v (g1.trans (al.gr c1.base)) (c1.al al) d3
theorem se_cbN {K : PySem.W.Frag} {r : List V → Hp → VK → Prop} {g : List D → Option Cell} {t : TA} {fa : FA} (hg : OpAN K r g) (ha : SA K t fa) : SN K (tCB r t) (eCBN g fa) := by
  intro B F io σ H ρ d ρ' Q c h k
  obtain ⟨p, e1, h⟩ := Option.bind_eq_some_iff.mp h
  obtain ⟨z, e3, h⟩ := Option.map_eq_some_iff.mp h
  cases h
  refine ha B F io σ H ρ p.1 p.2 _ c e1 fun F1 H1 xs g1 c1 d1 => ?_
  exact hg F1 H1 xs p.1 d Q c1.frz d1 e3 fun F3 H3 a o al ha ob fa na => k F3 H3 a o (g1.trans (al.gr c1.base)) (c1.al al) ha ob fa (c1.base.free na) (c1.fresh_notOwned na)
variable {e : Expr} {es : List Expr} {t : TA} {fl : FA} {x : Str} {p : Pos} {r : List V → Hp → VK → Prop} {id T : String}
theorem de_callB {g : List D → Option D} (hc : CallR X (.builtin id) r) (hg' : OpA X.K r g) (hm : X.mg x = none) (ha : DA X (e :: es) t fl) (hv : bootBuiltins x = some (.builtin id) := by decide +kernel) (hg : Gl X x := by rfl) (hn : x ≠ "__name__" := by decide) (hdb : (x == ("__debug__" : Str)) = false := by decide)
    (he : starEach (e :: es) X.env = (false, eval e X.env) :: starEach es X.env := by rfl) (hpl : (backTo pos (starEach es X.env)).any (·.1) = false := by rfl) : DE X (.Call (.Name x p) (e :: es) [] pos) (tCB r t) (eCB g fl) :=
  ⟨pe_callB hc hg hm hv ha.pe hn hdb he hpl, se_cb hg' ha.se⟩
theorem dn_callB {g : List D → Option Cell} (hc : CallR X (.builtin id) r) (hg' : OpAN X.K r g) (hm : X.mg x = none) (ha : DA X (e :: es) t fl) (hv : bootBuiltins x = some (.builtin id) := by decide +kernel) (hg : Gl X x := by rfl) (hn : x ≠ "__name__" := by decide) (hdb : (x == ("__debug__" : Str)) = false := by decide)
    (he : starEach (e :: es) X.env = (false, eval e X.env) :: starEach es X.env := by rfl) (hpl : (backTo pos (starEach es X.env)).any (·.1) = false := by rfl) : DN X (.Call (.Name x p) (e :: es) [] pos) (tCB r t) (eCBN g fl) :=
  ⟨pe_callB hc hg hm hv ha.pe hn hdb he hpl, se_cbN hg' ha.se⟩
theorem de_callTy {g : List D → Option D} (hc : CallR X (.type T) r) (hg' : OpA X.K r g) (hm : X.mg x = none) (ha : DA X (e :: es) t fl) (hv : bootBuiltins x = some (.type T) := by decide +kernel) (hg : Gl X x := by rfl) (hn : x ≠ "__name__" := by decide) (hdb : (x == ("__debug__" : Str)) = false := by decide)
    (he : starEach (e :: es) X.env = (false, eval e X.env) :: starEach es X.env := by rfl) (hpl : (backTo pos (starEach es X.env)).any (·.1) = false := by rfl) : DE X (.Call (.Name x p) (e :: es) [] pos) (tCB r t) (eCB g fl) :=
  ⟨pe_callTy hc hg hm hv ha.pe hn hdb he hpl, se_cb hg' ha.se⟩
theorem dn_callTy {g : List D → Option Cell} (hc : CallR X (.type T) r) (hg' : OpAN X.K r g) (hm : X.mg x = none) (ha : DA X (e :: es) t fl) (hv : bootBuiltins x = some (.type T) := by decide +kernel) (hg : Gl X x := by rfl) (hn : x ≠ "__name__" := by decide) (hdb : (x == ("__debug__" : Str)) = false := by decide)
    (he : starEach (e :: es) X.env = (false, eval e X.env) :: starEach es X.env := by rfl) (hpl : (backTo pos (starEach es X.env)).any (·.1) = false := by rfl) : DN X (.Call (.Name x p) (e :: es) [] pos) (tCB r t) (eCBN g fl) :=
  ⟨pe_callTy hc hg hm hv ha.pe hn hdb he hpl, se_cbN hg' ha.se⟩
end
end L2.Pd

namespace L2.Pd
open PySem PySem.Spec PyProof.Rows
/-! ## Operations on values, as plain functions of data -/
def okD (d : D) : Bool := SeqAt.shaped d
/-! ### + - * // % ** -/
def dAdd : D → D → Option D
  | .int a, .int b => some (.int (a + b))
  | .str a, .str b => if a.length + b.length ≤ sizeLine then some (.str (a ++ b)) else none
  | .tuple a, .tuple b => if a.length + b.length ≤ sizeLine then some (.tuple (a ++ b)) else none
  | _, _ => none
def dSub : D → D → Option D
  | .int a, .int b => some (.int (a - b))
  | _, _ => none
def mulOk (i j : Int) : Bool := decide (i.natAbs < 2 ^ 64) || decide (j.natAbs < 2 ^ 64) || decide (i.natAbs.log2 + j.natAbs.log2 < 134217720)
def dMul : D → D → Option D
  | .int a, .int b => if mulOk a b = true then some (.int (a * b)) else none
  | _, _ => none
def dFdiv : D → D → Option D
  | .int a, .int b => if b ≠ 0 ∧ Builtin.divisionGoesByPylong a b = false then some (.int (a.fdiv b)) else none
  | _, _ => none
def dMod : D → D → Option D
  | .int a, .int b => if b ≠ 0 then some (.int (a.fmod b)) else none
  | _, _ => none
def dPow : D → D → Option D
  | .int a, .int b => if 0 ≤ b ∧ (Builtin.Int.intBits a : Int) * b ≤ 134217728 then some (.int (a ^ b.toNat)) else none
  | _, _ => none
def dNeg : D → Option D
  | .int a => some (.int (-a))
  | _ => none
theorem mulOk_ok {i j : Int} (h : mulOk i j = true) : IntMulOk i j := by
  unfold mulOk at h
  simp only [Bool.or_eq_true, decide_eq_true_eq] at h
  rcases h with (h | h) | h
  · exact .of_left (intBits_le_64 (by omega) (by omega))
  · exact .of_right (intBits_le_64 (by omega) (by omega))
  · have b : ∀ x : Int, Builtin.Int.intBits x ≤ x.natAbs.log2 + 1 := fun x => by
      unfold Builtin.Int.intBits
      split <;> omega
    have h1 := b i
    have h2 := b j
    have e : bitsLine = 134217728 := by decide
    unfold IntMulOk
    intro z
    rw [Bool.and_eq_true] at z
    have z2 := z.2
    unfold Builtin.Int.intTooBig at z2
    have z3 := of_decide_eq_true z2
    rw [e] at z3
    omega
section
variable {X : Cx}
abbrev rAddD (K : PySem.W.Frag) : R2 := fun x y H Q => rI0 (fun i j => .int (i + j)) x y H Q ∨ ((∃ i j, x = .str i ∧ y = .str j ∧ i.length + j.length ≤ sizeLine ∧ Q (.str (i ++ j)) H) ∨ rCatA K x y H Q)
theorem op_addD : OpR X (binaryOp .Add) (rAddD X.K) := op_add.or (op_add_str.or op_catA)
theorem v_add {K : PySem.W.Frag} : Op2 K (rAddD K) dAdd := by
  intro F H x y dx dy d Q s hx hy e k
  cases hx with
  | int a =>
    cases hy with
    | int b => cases e; exact .inl ⟨a, b, rfl, rfl, k F H _ (Al.refl s) (.int _)⟩
    | _ => cases e
  | str a =>
    cases hy with
    | str b =>
      have e : (if a.length + b.length ≤ sizeLine then some (PyData.str (a ++ b)) else none) = some d := e
      by_cases hz : a.length + b.length ≤ sizeLine
      · rw [if_pos hz] at e; cases e
        exact .inr (.inl ⟨a, b, rfl, rfl, hz, k F H _ (Al.refl s) (.str _)⟩)
      · rw [if_neg hz] at e; cases e
    | _ => cases e
  | @tup a xs ds q1 r1 =>
    cases hy with
    | @tup b ys es q2 r2 =>
      have e : (if ds.length + es.length ≤ sizeLine then some (PyData.tuple (ds ++ es)) else none) = some d := e
      by_cases hz : ds.length + es.length ≤ sizeLine
      · rw [if_pos hz] at e; cases e
        refine .inr (.inr ⟨a, b, xs, ys, rfl, rfl, sqT_mono s q1, sqT_mono s q2, by rw [r1.length, r2.length]; exact hz, fun h0 => ?_, fun _ h0 => ?_, fun _ _ p np => ?_⟩)
        · subst h0; cases r1
          exact k F H _ (Al.refl s) (by rw [List.nil_append]; exact .tup q2 r2)
        · subst h0; cases r2
          exact k F H _ (Al.refl s) (by rw [List.append_nil]; exact .tup q1 r1)
        · have al := Al.laid (o := .tup (xs ++ ys)) s np
          exact k _ _ _ al (.tup (.inl (.inl upd_same)) ((dpAll_mono al.ff r1).append (dpAll_mono al.ff r2)))
      · rw [if_neg hz] at e; cases e
    | _ => cases e
  | _ => cases e
theorem v_sub {K : PySem.W.Frag} : Op2 K (rI0 fun i j => .int (i - j)) dSub := by
  intro F H x y dx dy d Q s hx hy e k
  cases hx with
  | int a =>
    cases hy with
    | int b => cases e; exact ⟨a, b, rfl, rfl, k F H _ (Al.refl s) (.int _)⟩
    | _ => cases e
  | _ => cases e
theorem op_mulD : OpR X (binaryOp .Mult) (rI IntMulOk fun i j => .int (i * j)) := opI fun _ _ _ _ _ _ _ hc q => mul_int q hc
theorem v_mul {K : PySem.W.Frag} : Op2 K (rI IntMulOk fun i j => .int (i * j)) dMul := by
  intro F H x y dx dy d Q s hx hy e k
  cases hx with
  | int a =>
    cases hy with
    | int b =>
      have e : (if mulOk a b = true then some (PyData.int (a * b)) else none) = some d := e
      by_cases hz : mulOk a b = true
      · rw [if_pos hz] at e; cases e
        exact ⟨a, b, rfl, rfl, mulOk_ok hz, k F H _ (Al.refl s) (.int _)⟩
      · rw [if_neg hz] at e; cases e
    | _ => cases e
  | _ => cases e
def CFd (i j : Int) : Prop := j ≠ 0 ∧ Builtin.divisionGoesByPylong i j = false
theorem op_fdivD : OpR X (binaryOp .FloorDiv) (rI CFd fun i j => .int (i.fdiv j)) := opI fun _ _ _ _ _ _ _ hc q => floordiv_int hc.1 q (.inl hc.2)
theorem v_fdiv {K : PySem.W.Frag} : Op2 K (rI CFd fun i j => .int (i.fdiv j)) dFdiv := by
  intro F H x y dx dy d Q s hx hy e k
  cases hx with
  | int a =>
    cases hy with
    | int b =>
      have e : (if b ≠ 0 ∧ Builtin.divisionGoesByPylong a b = false then some (PyData.int (a.fdiv b)) else none) = some d := e
      by_cases hz : b ≠ 0 ∧ Builtin.divisionGoesByPylong a b = false
      · rw [if_pos hz] at e; cases e
        exact ⟨a, b, rfl, rfl, hz, k F H _ (Al.refl s) (.int _)⟩
      · rw [if_neg hz] at e; cases e
    | _ => cases e
  | _ => cases e
theorem v_mod {K : PySem.W.Frag} : Op2 K (rI (fun _ j => j ≠ 0) fun i j => .int (i.fmod j)) dMod := by
  intro F H x y dx dy d Q s hx hy e k
  cases hx with
  | int a =>
    cases hy with
    | int b =>
      have e : (if b ≠ 0 then some (PyData.int (a.fmod b)) else none) = some d := e
      by_cases hz : b ≠ 0
      · rw [if_pos hz] at e; cases e
        exact ⟨a, b, rfl, rfl, hz, k F H _ (Al.refl s) (.int _)⟩
      · rw [if_neg hz] at e; cases e
    | _ => cases e
  | _ => cases e
def CPowD (i j : Int) : Prop := 0 ≤ j ∧ (Builtin.Int.intBits i : Int) * j ≤ 134217728
theorem op_powD : OpR X (binaryOp .Pow) (rI CPowD fun i j => .int (i ^ j.toNat)) := opI fun _ _ _ _ _ _ _ hc q => pow_int hc.1 (by have := hc.2; omega) q
theorem v_pow {K : PySem.W.Frag} : Op2 K (rI CPowD fun i j => .int (i ^ j.toNat)) dPow := by
  intro F H x y dx dy d Q s hx hy e k
  cases hx with
  | int a =>
    cases hy with
    | int b =>
      have e : (if 0 ≤ b ∧ (Builtin.Int.intBits a : Int) * b ≤ 134217728 then some (PyData.int (a ^ b.toNat)) else none) = some d := e
      by_cases hz : 0 ≤ b ∧ (Builtin.Int.intBits a : Int) * b ≤ 134217728
      · rw [if_pos hz] at e; cases e
        exact ⟨a, b, rfl, rfl, hz, k F H _ (Al.refl s) (.int _)⟩
      · rw [if_neg hz] at e; cases e
    | _ => cases e
  | _ => cases e
theorem v_neg {K : PySem.W.Frag} : Op1 K (rU fun i => .int (-i)) dNeg := by
  intro F H x dx d Q s hx e k
  cases hx with
  | int a => cases e; exact ⟨a, rfl, k F H _ (Al.refl s) (.int _)⟩
  | _ => cases e
/-! ### comparisons -/
/-- an operation whose answer is a truth value told by the data -/
def rDat (K : PySem.W.Frag) (g : D → D → Option Bool) : R2 := fun x y H Q => ∃ d e b, Dp K H x d ∧ Dp K H y e ∧ g d e = some b ∧ Q (.bl b) H
theorem v_dat {K : PySem.W.Frag} {g : D → D → Option Bool} : Op2 K (rDat K g) (fun x y => (g x y).map .bool) := by
  intro F H x y dx dy d Q s hx hy e k
  obtain ⟨b, e1, e2⟩ := Option.map_eq_some_iff.mp e
  cases e2
  exact ⟨dx, dy, b, dp_mono s hx, dp_mono s hy, e1, k F H _ (Al.refl s) (.bl _)⟩
def bEq (a b : D) : Option Bool := if (okD a && okD b) = true then some (PyData.eqv a b) else none
def bNe (a b : D) : Option Bool := if (okD a && okD b) = true then some (!PyData.eqv a b) else none
def noNone : D → Bool
  | .none => false
  | _ => true
def cmpOk (a b : D) : Bool := okD a && PySem.W.alike a b && noNone a
def bLt (a b : D) : Option Bool := match a, b with
  | .int i, .int j => some (decide (i < j))
  | a, b => if cmpOk a b = true then some (PySem.W.dataLt a b) else none
def bGt (a b : D) : Option Bool := match a, b with
  | .int i, .int j => some (decide (j < i))
  | a, b => if cmpOk a b = true then some (PySem.W.dataLt b a) else none
def bLe (a b : D) : Option Bool := match a, b with
  | .int i, .int j => some (decide (i ≤ j))
  | a, b => if cmpOk a b = true then some (!PySem.W.dataLt b a) else none
def bGe (a b : D) : Option Bool := match a, b with
  | .int i, .int j => some (decide (j ≤ i))
  | a, b => if cmpOk a b = true then some (!PySem.W.dataLt a b) else none
theorem op_eqB (hu : X.A.units + 100 < cLine) : OpR X (compareOp .Eq) (rDat X.K bEq) := by
  intro pins s σ H x y v u Q I rx ry h
  obtain ⟨d, e, b, hd, he, hb, q⟩ := h
  unfold bEq at hb
  by_cases hz : (okD d && okD e) = true
  · rw [if_pos hz] at hb; cases hb
    rw [Bool.and_eq_true] at hz
    exact op_eqD (by omega) pins s σ H x y v u Q I rx ry ⟨d, e, hd, he, hz.1, hz.2, q⟩
  · rw [if_neg hz] at hb; cases hb
theorem op_neB (hu : X.A.units + 100 < cLine) : OpR X (compareOp .NotEq) (rDat X.K bNe) := by
  intro pins s σ H x y v u Q I rx ry h
  obtain ⟨d, e, b, hd, he, hb, q⟩ := h
  unfold bNe at hb
  by_cases hz : (okD d && okD e) = true
  · rw [if_pos hz] at hb; cases hb
    rw [Bool.and_eq_true] at hz
    exact op_neD (by omega) pins s σ H x y v u Q I rx ry ⟨d, e, hd, he, hz.1, hz.2, q⟩
  · rw [if_neg hz] at hb; cases hb
theorem noNone_ne {d : D} (h : noNone d = true) : d ≠ .none := fun e => by subst e; cases h
theorem cmp_room {A : Around} {d e : D} (h : okD d = true) (hu : A.units + 100 < cLine) : A.units + min d.depth e.depth < cLine := by
  have h1 := SeqAt.depth_of_shaped h
  have h2 : min d.depth e.depth ≤ d.depth := Nat.min_le_left _ _
  omega
theorem cmpOk_iff {a b : D} (h : cmpOk a b = true) : okD a = true ∧ PySem.W.alike a b = true ∧ a ≠ .none := by
  unfold cmpOk at h
  rw [Bool.and_eq_true, Bool.and_eq_true] at h
  exact ⟨h.1.1, h.1.2, noNone_ne h.2⟩
theorem cmp_case {g : D → D → Option Bool} {f : D → D → Bool} {p : Int → Int → Bool} (hg : g = fun a b => match a, b with
    | .int i, .int j => some (p i j)
    | a, b => if cmpOk a b = true then some (f a b) else none) {d e : D} {b : Bool} (h : g d e = some b) : (∃ i j, d = .int i ∧ e = .int j ∧ b = p i j) ∨ (cmpOk d e = true ∧ b = f d e) := by
  subst hg
  by_cases hz : cmpOk d e = true
  · cases d <;> first
      | (right; refine ⟨hz, ?_⟩; simp only [hz, if_true] at h; exact (Option.some.inj h).symm)
      | (cases e <;> first
          | (left; exact ⟨_, _, rfl, rfl, (Option.some.inj h).symm⟩)
          | (right; refine ⟨hz, ?_⟩; simp only [hz, if_true] at h; exact (Option.some.inj h).symm))
  · cases d <;> first
      | (simp only [hz, if_false] at h; cases h; done)
      | (cases e <;> first
          | (left; exact ⟨_, _, rfl, rfl, (Option.some.inj h).symm⟩)
          | (simp only [hz] at h; cases h; done))
theorem op_ltB (hu : X.A.units + 100 < cLine) : OpR X (compareOp .Lt) (rDat X.K bLt) := by
  intro pins s σ H x y v u Q I rx ry h
  obtain ⟨d, e, b, hd, he, hb, q⟩ := h
  rcases cmp_case (g := bLt) (f := PySem.W.dataLt) (p := fun i j => decide (i < j)) rfl hb with ⟨i, j, rfl, rfl, rfl⟩ | ⟨hz, rfl⟩
  · cases hd; cases he
    exact op_lt pins s σ H _ _ v u Q I rx ry ⟨i, j, rfl, rfl, q⟩
  · obtain ⟨z1, z2, z3⟩ := cmpOk_iff hz
    obtain ⟨as, r1⟩ := Dp.reads I d x v hd rx
    obtain ⟨bs, r2⟩ := Dp.reads I e y u he ry
    exact PySem.W.lt_data r1 r2 z2 z3 (cmp_room z1 hu) ⟨.bl _, H, I, rfl, q⟩
theorem op_gtB (hu : X.A.units + 100 < cLine) : OpR X (compareOp .Gt) (rDat X.K bGt) := by
  intro pins s σ H x y v u Q I rx ry h
  obtain ⟨d, e, b, hd, he, hb, q⟩ := h
  rcases cmp_case (g := bGt) (f := fun a b => PySem.W.dataLt b a) (p := fun i j => decide (j < i)) rfl hb with ⟨i, j, rfl, rfl, rfl⟩ | ⟨hz, rfl⟩
  · cases hd; cases he
    exact op_gt pins s σ H _ _ v u Q I rx ry ⟨i, j, rfl, rfl, q⟩
  · obtain ⟨z1, z2, z3⟩ := cmpOk_iff hz
    obtain ⟨as, r1⟩ := Dp.reads I d x v hd rx
    obtain ⟨bs, r2⟩ := Dp.reads I e y u he ry
    exact PySem.W.gt_data r1 r2 z2 z3 (cmp_room z1 hu) ⟨.bl _, H, I, rfl, q⟩
theorem op_leB (hu : X.A.units + 100 < cLine) : OpR X (compareOp .LtE) (rDat X.K bLe) := by
  intro pins s σ H x y v u Q I rx ry h
  obtain ⟨d, e, b, hd, he, hb, q⟩ := h
  rcases cmp_case (g := bLe) (f := fun a b => !PySem.W.dataLt b a) (p := fun i j => decide (i ≤ j)) rfl hb with ⟨i, j, rfl, rfl, rfl⟩ | ⟨hz, rfl⟩
  · cases hd; cases he
    exact op_le pins s σ H _ _ v u Q I rx ry ⟨i, j, rfl, rfl, q⟩
  · obtain ⟨z1, z2, z3⟩ := cmpOk_iff hz
    obtain ⟨as, r1⟩ := Dp.reads I d x v hd rx
    obtain ⟨bs, r2⟩ := Dp.reads I e y u he ry
    exact PySem.W.le_data r1 r2 z2 z3 (cmp_room z1 hu) ⟨.bl _, H, I, rfl, q⟩
theorem op_geB (hu : X.A.units + 100 < cLine) : OpR X (compareOp .GtE) (rDat X.K bGe) := by
  intro pins s σ H x y v u Q I rx ry h
  obtain ⟨d, e, b, hd, he, hb, q⟩ := h
  rcases cmp_case (g := bGe) (f := fun a b => !PySem.W.dataLt a b) (p := fun i j => decide (j ≤ i)) rfl hb with ⟨i, j, rfl, rfl, rfl⟩ | ⟨hz, rfl⟩
  · cases hd; cases he
    exact op_ge pins s σ H _ _ v u Q I rx ry ⟨i, j, rfl, rfl, q⟩
  · obtain ⟨z1, z2, z3⟩ := cmpOk_iff hz
    obtain ⟨as, r1⟩ := Dp.reads I d x v hd rx
    obtain ⟨bs, r2⟩ := Dp.reads I e y u he ry
    exact PySem.W.ge_data r1 r2 z2 z3 (cmp_room z1 hu) ⟨.bl _, H, I, rfl, q⟩
/-! ### in, not in -/
def bIn (x y : D) : Option Bool := match y with
  | .list ds => if (okD x && okD (.list ds)) = true then some (ds.any fun z => PyData.eqv z x) else none
  | .tuple ds => if (okD x && okD (.tuple ds)) = true then some (ds.any fun z => PyData.eqv z x) else none
  | .str z => match x with
    | .str w => if w.length = 1 then some (decide (w.cps.getD 0 0 ∈ z.cps.toList)) else some (!(Builtin.Str.occurrences z w 0 z.length 1).isEmpty)
    | _ => none
  | _ => none
def bNotIn (x y : D) : Option Bool := (bIn x y).map not
theorem str_one {w : Str} (h : w.length = 1) : w = ⟨#[w.cps.getD 0 0]⟩ := by
  obtain ⟨⟨l⟩⟩ := w
  have h : l.length = 1 := h
  match l, h with
  | [a], _ => rfl
theorem op_inB (hu : X.A.units + 100 < cLine) : OpR X (compareOp .In) (rDat X.K bIn) := by
  intro pins s σ H x y v u Q I rx ry h
  obtain ⟨d, e, b, hd, he, hb, q⟩ := h
  cases he with
  | @lst a vs ds q1 r1 =>
    have hb : (if (okD d && okD (.list ds)) = true then some (ds.any fun z => PyData.eqv z d) else none) = some b := hb
    by_cases hz : (okD d && okD (.list ds)) = true
    · rw [if_pos hz] at hb; cases hb
      rw [Bool.and_eq_true] at hz
      exact op_inD (by omega) pins s σ H x _ v u Q I rx ry ⟨d, ds, hd, .lst q1 r1, hz.1, hz.2, q⟩
    · rw [if_neg hz] at hb; cases hb
  | @tup a vs ds q1 r1 =>
    have hb : (if (okD d && okD (.tuple ds)) = true then some (ds.any fun z => PyData.eqv z d) else none) = some b := hb
    by_cases hz : (okD d && okD (.tuple ds)) = true
    · rw [if_pos hz] at hb; cases hb
      rw [Bool.and_eq_true] at hz
      obtain ⟨as, z1⟩ := Dp.reads I d x v hd rx
      obtain ⟨bs, z2⟩ := Dp.reads I (.tuple ds) _ u (.tup q1 r1) ry
      exact SeqAt.in_tuple_reads z2 z1 (SeqAt.canLay_of_shaped hz.2) (SeqAt.canLay_of_shaped hz.1) (room_in_shaped hz.1 (by omega)) ⟨.bl _, H, I, rfl, q⟩
    · rw [if_neg hz] at hb; cases hb
  | str z =>
    cases hd with
    | str w =>
      have hb : (if w.length = 1 then some (decide (w.cps.getD 0 0 ∈ z.cps.toList)) else some (!(Builtin.Str.occurrences z w 0 z.length 1).isEmpty)) = some b := hb
      by_cases hz : w.length = 1
      · rw [if_pos hz] at hb; cases hb
        rw [str_one hz] at rx
        exact op_in_sign pins s σ H _ _ v u Q I rx ry ⟨_, z, rfl, rfl, q⟩
      · rw [if_neg hz] at hb; cases hb
        exact op_in_str pins s σ H _ _ v u Q I rx ry ⟨_, z, rfl, rfl, q⟩
    | _ => cases hb
  | _ => cases hb
theorem op_notInB (hu : X.A.units + 100 < cLine) : OpR X (compareOp .NotIn) (rDat X.K bNotIn) := by
  intro pins s σ H x y v u Q I rx ry h
  obtain ⟨d, e, b0, hd, he, hb0, q⟩ := h
  obtain ⟨b, hb, eb⟩ := Option.map_eq_some_iff.mp hb0
  subst eb
  cases he with
  | @lst a vs ds q1 r1 =>
    have hb : (if (okD d && okD (.list ds)) = true then some (ds.any fun z => PyData.eqv z d) else none) = some b := hb
    by_cases hz : (okD d && okD (.list ds)) = true
    · rw [if_pos hz] at hb; cases hb
      rw [Bool.and_eq_true] at hz
      exact op_notInD (by omega) pins s σ H x _ v u Q I rx ry ⟨d, ds, hd, .lst q1 r1, hz.1, hz.2, q⟩
    · rw [if_neg hz] at hb; cases hb
  | @tup a vs ds q1 r1 =>
    have hb : (if (okD d && okD (.tuple ds)) = true then some (ds.any fun z => PyData.eqv z d) else none) = some b := hb
    by_cases hz : (okD d && okD (.tuple ds)) = true
    · rw [if_pos hz] at hb; cases hb
      rw [Bool.and_eq_true] at hz
      obtain ⟨as, z1⟩ := Dp.reads I d x v hd rx
      obtain ⟨bs, z2⟩ := Dp.reads I (.tuple ds) _ u (.tup q1 r1) ry
      exact SeqAt.notIn_tuple_reads z2 z1 (SeqAt.canLay_of_shaped hz.2) (SeqAt.canLay_of_shaped hz.1) (room_in_shaped hz.1 (by omega)) ⟨.bl _, H, I, rfl, q⟩
    · rw [if_neg hz] at hb; cases hb
  | str z =>
    cases hd with
    | str w =>
      have hb : (if w.length = 1 then some (decide (w.cps.getD 0 0 ∈ z.cps.toList)) else some (!(Builtin.Str.occurrences z w 0 z.length 1).isEmpty)) = some b := hb
      by_cases hz : w.length = 1
      · rw [if_pos hz] at hb; cases hb
        rw [str_one hz] at rx
        exact op_notIn_sign pins s σ H _ _ v u Q I rx ry ⟨_, z, rfl, rfl, q⟩
      · rw [if_neg hz] at hb; cases hb
        exact op_notin_str pins s σ H _ _ v u Q I rx ry ⟨_, z, rfl, rfl, q⟩
    | _ => cases hb
  | _ => cases hb
/-! ### is None, is not None -/
def isNone : D → Bool
  | .none => true
  | _ => false
def bIsN (x y : D) : Option Bool := if isNone y = true then some (isNone x) else none
def bNotN (x y : D) : Option Bool := if isNone y = true then some (!isNone x) else none
theorem isNone_dp {K : PySem.W.Frag} {H : Hp} {v : V} {d : D} (h : Dp K H v d) : decide (v = .non) = isNone d := by
  cases h <;> first | rfl | exact decide_eq_false (fun z => nomatch z)
theorem op_isNB : OpR X (compareOp .Is) (rDat X.K bIsN) := by
  intro pins s σ H x y v u Q I rx ry h
  obtain ⟨d, e, b, hd, he, hb, q⟩ := h
  unfold bIsN at hb
  by_cases hz : isNone e = true
  · rw [if_pos hz] at hb; cases hb
    cases he <;> first | cases hz | skip
    exact op_isN pins s σ H x _ v u Q I rx ry ⟨rfl, by rw [isNone_dp hd]; exact q⟩
  · rw [if_neg hz] at hb; cases hb
theorem op_notNB : OpR X (compareOp .IsNot) (rDat X.K bNotN) := by
  intro pins s σ H x y v u Q I rx ry h
  obtain ⟨d, e, b, hd, he, hb, q⟩ := h
  unfold bNotN at hb
  by_cases hz : isNone e = true
  · rw [if_pos hz] at hb; cases hb
    cases he <;> first | cases hz | skip
    exact op_notN pins s σ H x _ v u Q I rx ry ⟨rfl, by rw [isNone_dp hd]; exact q⟩
  · rw [if_neg hz] at hb; cases hb
/-! ### items, slices -/
def dIx : D → D → Option D
  | .list ds, .int i => atI ds i
  | .tuple ds, .int i => atI ds i
  | .str z, .int i => if z.length ≤ sizeLine then (atI z.cps.toList i).map fun c => .str ⟨#[c]⟩ else none
  | _, _ => none
theorem atI_dp {K : PySem.W.Frag} {F : Hp} {vs : List V} {ds : List D} {i : Int} {d : D} (h : DpAll K F vs ds) (e : atI ds i = some d) : ∃ v, atI vs i = some v ∧ Dp K F v d := by
  unfold atI at e ⊢
  rw [h.length]
  cases q : ixN ds.length i with
  | none => rw [q] at e; cases e
  | some j => rw [q] at e; exact h.get' e
theorem v_ix {K : PySem.W.Frag} : Op2 K (rIx K) dIx := by
  intro F H x y dx dy d Q s hx hy e k
  cases hx with
  | @lst a vs ds q1 r1 =>
    cases hy with
    | int i =>
      obtain ⟨v, e1, e2⟩ := atI_dp r1 e
      exact .inl ⟨a, vs, i, v, rfl, rfl, s.seq q1, e1, k F H v (Al.refl s) e2⟩
    | _ => cases e
  | @tup a vs ds q1 r1 =>
    cases hy with
    | int i =>
      obtain ⟨v, e1, e2⟩ := atI_dp r1 e
      exact .inr (.inl ⟨a, vs, i, v, rfl, rfl, sqT_mono s q1, e1, k F H v (Al.refl s) e2⟩)
    | _ => cases e
  | str z =>
    cases hy with
    | int i =>
      have e : (if z.length ≤ sizeLine then (atI z.cps.toList i).map fun c => PyData.str ⟨#[c]⟩ else none) = some d := e
      by_cases hz : z.length ≤ sizeLine
      · rw [if_pos hz] at e
        obtain ⟨c, e1, e2⟩ := Option.map_eq_some_iff.mp e
        cases e2
        exact .inr (.inr ⟨z, i, c, rfl, rfl, hz, e1, k F H _ (Al.refl s) (.str _)⟩)
      · rw [if_neg hz] at e; cases e
    | _ => cases e
  | _ => cases e
variable {a b : Expr} {ta tb : TE} {fa fb : FE} {pos : Pos}
theorem de_ix (ha : DE X a ta fa) (hb : DE X b tb fb) (hs : PlainIx b := by exact fun _ _ => rfl) : DE X (.Subscript a b pos) (tOp (rIx X.K) ta tb) (eBin dIx fa fb) :=
  ⟨pe_ix ix_seq ha.pe hb.pe hs, se_bin v_ix ha.se hb.se⟩
/-- a slice's bound -/
abbrev FO := En → Option (Option Int × En)
def SO (K : PySem.W.Frag) (t : TO) (f : FO) : Prop := ∀ (B F : Hp) (io : List (Nat × Addr)) (σ : St) (H : Hp) (ρ : En) (o : Option Int) (ρ' : En) (Q : Option Int → Hp → Prop), Con K B F io σ H ρ → f ρ = some (o, ρ') →
  (∀ F' H', Gr B F F' → Con K B F' io σ H' ρ' → Q o H') → t σ H Q
structure DO (X : Cx) (e : Option Expr) (t : TO) (f : FO) : Prop where
  pe : PO X e t
  se : SO X.K t f
def oNone : FO := fun ρ => some (none, ρ)
def intD : D → Option Int
  | .int i => some i
  | _ => none
def oSome (f : FE) : FO := fun ρ => (f ρ).bind fun p => (intD p.1).map fun i => (some i, p.2)
theorem do_none : DO X none tNoPart oNone := ⟨po_none, fun B F io σ H ρ o ρ' Q c e k => by cases e; exact k F H (Gr.refl _ _) c⟩
theorem do_some (ha : DE X a ta fa) : DO X (some a) (tPart ta) (oSome fa) := ⟨po_some ha.pe, fun B F io σ H ρ o ρ' Q c e k => by
  obtain ⟨p, e1, e⟩ := Option.bind_eq_some_iff.mp e
  obtain ⟨z, e3, e⟩ := Option.map_eq_some_iff.mp e
  cases e
  refine ha.se B F io σ H ρ p.1 p.2 _ c e1 fun F1 H1 x g1 c1 d1 => ?_
  cases hp : p.1 <;> rw [hp] at e3 d1 <;> cases e3
  cases d1
  exact ⟨_, rfl, k F1 H1 g1 c1⟩⟩
def cutD (ds : List D) (lo hi : Option Int) : List D := (ds.drop (HT.sIx ds.length 0 lo)).take (HT.sIx ds.length ds.length hi - HT.sIx ds.length 0 lo)
theorem cut_dp {K : PySem.W.Frag} {F : Hp} {vs : List V} {ds : List D} (h : DpAll K F vs ds) (lo hi : Option Int) : DpAll K F (cutV vs lo hi) (cutD ds lo hi) := by
  unfold cutV cutD
  rw [h.length]
  exact (h.drop _).take _
def dSl (x : D) (lo hi : Option Int) : Option D := match x with
  | .tuple ds => some (.tuple (cutD ds lo hi))
  | .list ds => some (.list (cutD ds lo hi))
  | .str z => if z.length ≤ sizeLine then some (.str (cutS z lo hi)) else none
  | _ => none
def eSl (fa : FE) (fl fh : FO) : FE := fun ρ => (fa ρ).bind fun p => (fl p.2).bind fun l => (fh l.2).bind fun h => (dSl p.1 l.1 h.1).map fun d => (d, h.2)
def eSlN (fa : FE) (fl fh : FO) : FN := fun ρ => (fa ρ).bind fun p => (fl p.2).bind fun l => (fh l.2).bind fun h => match p.1 with
  | .list ds => some (.ol (cutD ds l.1 h.1), h.2)
  | _ => none
abbrev rSlD (K : PySem.W.Frag) : V → Option Int → Option Int → Hp → VK → Prop := fun x lo hi H Q => rSlL K x lo hi H Q ∨ (rSlA K x lo hi H Q ∨ rSlS x lo hi H Q)
theorem sl_D : SlR X (rSlD X.K) := sl_list.or (sl_tupA.or sl_str)
variable {lo hi : Option Expr} {tl th : TO} {fl fh : FO} {p2 : Pos}
theorem cut_whole {α : Type} (xs : List α) (lo hi : Option Int) (h : HT.sIx xs.length 0 lo = 0 ∧ HT.sIx xs.length xs.length hi = xs.length) : (xs.drop (HT.sIx xs.length 0 lo)).take (HT.sIx xs.length xs.length hi - HT.sIx xs.length 0 lo) = xs := by
  rw [h.1, h.2, List.drop_zero, Nat.sub_zero, List.take_length]
theorem de_slice (he : DE X a ta fa) (hl : DO X lo tl fl) (hu : DO X hi th fh) : DE X (.Subscript a (.Slice lo hi none p2) pos) (tSl (rSlD X.K) ta tl th) (eSl fa fl fh) := by
  refine ⟨pe_slice sl_D he.pe hl.pe hu.pe, ?_⟩
  intro B F io σ H ρ d ρ' Q c e k
  obtain ⟨p, e1, e⟩ := Option.bind_eq_some_iff.mp e
  obtain ⟨l, e2, e⟩ := Option.bind_eq_some_iff.mp e
  obtain ⟨h, e3, e⟩ := Option.bind_eq_some_iff.mp e
  obtain ⟨z, e4, e⟩ := Option.map_eq_some_iff.mp e
  cases e
  refine he.se B F io σ H ρ p.1 p.2 _ c e1 fun F1 H1 x g1 c1 d1 => ?_
  refine hl.se B F1 io σ H1 p.2 l.1 l.2 _ c1 e2 fun F2 H2 g2 c2 => ?_
  refine hu.se B F2 io σ H2 l.2 h.1 h.2 _ c2 e3 fun F3 H3 g3 c3 => ?_
  have d3 := dp_mono (g2.sub.trans g3.sub) d1
  have g := (g1.trans g2).trans g3
  cases hp : p.1 with
  | list ds =>
    rw [hp] at e4 d3
    cases e4
    cases d3 with
    | @lst a vs _ q1 r1 =>
      refine .inl ⟨a, vs, rfl, c3.frz.seq q1, fun n nn => ?_⟩
      have al := Al.laid (o := .lst (cutV vs l.1 h.1)) c3.frz nn
      exact k _ _ _ (g.trans (al.gr c3.base)) (c3.al al) (.lst (.inl (.inl upd_same)) (cut_dp (dpAll_mono al.ff r1) _ _))
  | tuple ds =>
    rw [hp] at e4 d3
    cases e4
    cases d3 with
    | @tup a vs _ q1 r1 =>
      refine .inr (.inl ⟨a, vs, rfl, sqT_mono c3.frz q1, fun hw => ?_, fun _ n nn => ?_⟩)
      · refine k _ _ _ g c3 ?_
        have e5 : cutD ds l.1 h.1 = ds := cut_whole ds _ _ (by rw [← r1.length]; exact hw)
        rw [e5]
        exact .tup q1 r1
      · have al := Al.laid (o := .tup (cutV vs l.1 h.1)) c3.frz nn
        exact k _ _ _ (g.trans (al.gr c3.base)) (c3.al al) (.tup (.inl (.inl upd_same)) (cut_dp (dpAll_mono al.ff r1) _ _))
  | str z =>
    rw [hp] at e4 d3
    have e4 : (if z.length ≤ sizeLine then some (PyData.str (cutS z l.1 h.1)) else none) = some d := e4
    by_cases hz : z.length ≤ sizeLine
    · rw [if_pos hz] at e4; cases e4
      cases d3
      exact .inr (.inr ⟨z, rfl, hz, k _ _ _ g c3 (.str _)⟩)
    · rw [if_neg hz] at e4; cases e4
  | _ => rw [hp] at e4; cases e4
theorem dn_slice (he : DE X a ta fa) (hl : DO X lo tl fl) (hu : DO X hi th fh) : DN X (.Subscript a (.Slice lo hi none p2) pos) (tSl (rSlL X.K) ta tl th) (eSlN fa fl fh) := by
  refine ⟨pe_slice sl_list he.pe hl.pe hu.pe, ?_⟩
  intro B F io σ H ρ d ρ' Q c e k
  obtain ⟨p, e1, e⟩ := Option.bind_eq_some_iff.mp e
  obtain ⟨l, e2, e⟩ := Option.bind_eq_some_iff.mp e
  obtain ⟨h, e3, e4⟩ := Option.bind_eq_some_iff.mp e
  refine he.se B F io σ H ρ p.1 p.2 _ c e1 fun F1 H1 x g1 c1 d1 => ?_
  refine hl.se B F1 io σ H1 p.2 l.1 l.2 _ c1 e2 fun F2 H2 g2 c2 => ?_
  refine hu.se B F2 io σ H2 l.2 h.1 h.2 _ c2 e3 fun F3 H3 g3 c3 => ?_
  have d3 := dp_mono (g2.sub.trans g3.sub) d1
  have g := (g1.trans g2).trans g3
  cases hp : p.1 with
  | list ds =>
    rw [hp] at e4 d3
    cases e4
    cases d3 with
    | @lst a vs _ q1 r1 =>
      refine ⟨a, vs, rfl, c3.frz.seq q1, fun n nn => ?_⟩
      have al := Al.laidH (o := .lst (cutV vs l.1 h.1)) c3.frz nn
      exact k _ _ n _ (g.trans (al.gr c3.base)) (c3.al al) upd_same (cut_dp r1 _ _) (c3.frz.free nn) (c3.base.free nn) (c3.fresh_notOwned nn)
  | _ => rw [hp] at e4; cases e4
end
end L2.Pd

namespace L2.Pd
open PySem PySem.Spec PyProof.Rows
/-! ## Calls of built-in functions, as plain functions of data -/
/-- a call whose answer is told by the data, flat -/
def rDatA (K : PySem.W.Frag) (g : List D → Option D) : List V → Hp → VK → Prop := fun xs H Q => ∃ ds d, DpAll K H xs ds ∧ g ds = some d ∧ ∀ v, Dp K H v d → Q v H
def rDatN (K : PySem.W.Frag) (g : List D → Option (List D)) : List V → Hp → VK → Prop := fun xs H Q => ∃ ds es, DpAll K H xs ds ∧ g ds = some es ∧ ∀ p ws, H p = none → DpAll K H ws es → Q (.ref p) (upd H p (.lst ws))
/-- the answer's items are told by the items -/
theorem lift_dp {K : PySem.W.Frag} {F H : Hp} (s : Same F H) {vs : List V} {ds : List D} (h : DpAll K F vs ds) : DpAll K H vs ds := dpAll_mono s h
section
variable {X : Cx}
theorem one_of {K : PySem.W.Frag} {H : Hp} {xs : List V} {d : D} (h : DpAll K H xs [d]) : ∃ x, xs = [x] ∧ Dp K H x d := by
  cases h with
  | cons q r => cases r; exact ⟨_, rfl, q⟩
theorem two_of {K : PySem.W.Frag} {H : Hp} {xs : List V} {d e : D} (h : DpAll K H xs [d, e]) : ∃ x y, xs = [x, y] ∧ Dp K H x d ∧ Dp K H y e := by
  cases h with
  | cons q r =>
    cases r with
    | cons q' r' => cases r'; exact ⟨_, _, rfl, q, q'⟩
/-! ### len, int, abs, min, max of two, str -/
def cLen : List D → Option D
  | [.list ds] => some (.int ds.length)
  | [.tuple ds] => some (.int ds.length)
  | [.str z] => if z.length ≤ sizeLine then some (.int z.length) else none
  | _ => none
abbrev rLen (K : PySem.W.Frag) : List V → Hp → VK → Prop := fun xs H Q => ∃ x n, xs = [x] ∧ LenV K x H n ∧ Q (.int n) H
theorem a_len {K : PySem.W.Frag} : OpA K (rLen K) cLen := by
  intro F H xs ds d Q s hx e k
  match ds, hx, e with
  | [.list ds], hx, e =>
    obtain ⟨x, rfl, q⟩ := one_of hx
    cases q with
    | lst q1 r1 => cases e; exact ⟨_, _, rfl, .inl ⟨_, s.seq q1, rfl⟩, k F H _ (Al.refl s) (by rw [r1.length]; exact .int _)⟩
  | [.tuple ds], hx, e =>
    obtain ⟨x, rfl, q⟩ := one_of hx
    cases q with
    | tup q1 r1 => cases e; exact ⟨_, _, rfl, .inr ⟨_, sqT_mono s q1, rfl⟩, k F H _ (Al.refl s) (by rw [r1.length]; exact .int _)⟩
  | [.str z], hx, e =>
    obtain ⟨x, rfl, q⟩ := one_of hx
    cases q
    have e : (if z.length ≤ sizeLine then some (PyData.int z.length) else none) = some d := e
    by_cases hz : z.length ≤ sizeLine
    · rw [if_pos hz] at e; cases e
      exact ⟨_, _, rfl, ⟨hz, rfl⟩, k F H _ (Al.refl s) (.int _)⟩
    · rw [if_neg hz] at e; cases e
def cInt : List D → Option D
  | [.int i] => some (.int i)
  | [.bool b] => some (.int (if b then 1 else 0))
  | [.str a] => if a.length ≤ 640 then (PySem.intText? a).map .int else none
  | _ => none
abbrev rIntC : List V → Hp → VK → Prop := fun xs H Q => ((∃ i, xs = [.int i] ∧ Q (.int i) H) ∨ ∃ k, xs = [.bl k] ∧ Q (.int (if k then 1 else 0)) H) ∨ (∃ a n, xs = [.str a] ∧ PySem.intText? a = some n ∧ a.length ≤ 640 ∧ Q (.int n) H)
theorem call_intD : CallR X (.type "int") rIntC := call_int1.or call_int_str
theorem a_int {K : PySem.W.Frag} : OpA K rIntC cInt := by
  intro F H xs ds d Q s hx e k
  match ds, hx, e with
  | [.int i], hx, e =>
    obtain ⟨x, rfl, q⟩ := one_of hx
    cases q; cases e
    exact .inl (.inl ⟨i, rfl, k F H _ (Al.refl s) (.int _)⟩)
  | [.bool b], hx, e =>
    obtain ⟨x, rfl, q⟩ := one_of hx
    cases q; cases e
    exact .inl (.inr ⟨b, rfl, k F H _ (Al.refl s) (.int _)⟩)
  | [.str a], hx, e =>
    obtain ⟨x, rfl, q⟩ := one_of hx
    cases q
    have e : (if a.length ≤ 640 then (PySem.intText? a).map PyData.int else none) = some d := e
    by_cases hz : a.length ≤ 640
    · rw [if_pos hz] at e
      obtain ⟨n, e1, e2⟩ := Option.map_eq_some_iff.mp e
      cases e2
      exact .inr ⟨a, n, rfl, e1, hz, k F H _ (Al.refl s) (.int _)⟩
    · rw [if_neg hz] at e; cases e
def cAbs : List D → Option D
  | [.int i] => some (.int (if i < 0 then -i else i))
  | _ => none
theorem a_abs {K : PySem.W.Frag} : OpA K (fun xs H Q => ∃ i, xs = [.int i] ∧ Q (.int (if i < 0 then -i else i)) H) cAbs := by
  intro F H xs ds d Q s hx e k
  match ds, hx, e with
  | [.int i], hx, e =>
    obtain ⟨x, rfl, q⟩ := one_of hx
    cases q; cases e
    exact ⟨i, rfl, k F H _ (Al.refl s) (.int _)⟩
def cMax2 : List D → Option D
  | [.int i, .int j] => some (.int (if j > i then j else i))
  | _ => none
def cMin2 : List D → Option D
  | [.int i, .int j] => some (.int (if j < i then j else i))
  | _ => none
theorem a_max2 {K : PySem.W.Frag} : OpA K (fun xs H Q => ∃ i j, xs = [.int i, .int j] ∧ Q (.int (if j > i then j else i)) H) cMax2 := by
  intro F H xs ds d Q s hx e k
  match ds, hx, e with
  | [.int i, .int j], hx, e =>
    obtain ⟨x, y, rfl, q, q'⟩ := two_of hx
    cases q; cases q'; cases e
    exact ⟨i, j, rfl, k F H _ (Al.refl s) (.int _)⟩
theorem a_min2 {K : PySem.W.Frag} : OpA K (fun xs H Q => ∃ i j, xs = [.int i, .int j] ∧ Q (.int (if j < i then j else i)) H) cMin2 := by
  intro F H xs ds d Q s hx e k
  match ds, hx, e with
  | [.int i, .int j], hx, e =>
    obtain ⟨x, y, rfl, q, q'⟩ := two_of hx
    cases q; cases q'; cases e
    exact ⟨i, j, rfl, k F H _ (Al.refl s) (.int _)⟩
def cStr : List D → Option D
  | [.int i] => if i.natAbs.log2 < 1920 then some (.str (toString i)) else none
  | _ => none
theorem a_str {K : PySem.W.Frag} : OpA K (fun xs H Q => ∃ i, xs = [.int i] ∧ i.natAbs.log2 < 1920 ∧ Q (.str (toString i)) H) cStr := by
  intro F H xs ds d Q s hx e k
  match ds, hx, e with
  | [.int i], hx, e =>
    obtain ⟨x, rfl, q⟩ := one_of hx
    cases q
    have e : (if i.natAbs.log2 < 1920 then some (PyData.str (toString i)) else none) = some d := e
    by_cases hz : i.natAbs.log2 < 1920
    · rw [if_pos hz] at e; cases e
      exact ⟨i, rfl, hz, k F H _ (Al.refl s) (.str _)⟩
    · rw [if_neg hz] at e; cases e
/-! ### sum, any, all -/
def intsD : List D → Option (List Int)
  | [] => some []
  | .int i :: r => (intsD r).map (i :: ·)
  | _ :: _ => none
def bolsD : List D → Option (List Bool)
  | [] => some []
  | .bool i :: r => (bolsD r).map (i :: ·)
  | _ :: _ => none
theorem intsD_map : ∀ ns : List Int, intsD (ns.map .int) = some ns
  | [] => rfl
  | n :: ns => by show (intsD (ns.map .int)).map _ = _; rw [intsD_map ns]; rfl
theorem bolsD_map : ∀ ns : List Bool, bolsD (ns.map .bool) = some ns
  | [] => rfl
  | n :: ns => by show (bolsD (ns.map .bool)).map _ = _; rw [bolsD_map ns]; rfl
theorem intsD_eq : ∀ {ds : List D} {ns : List Int}, intsD ds = some ns → ds = ns.map .int
  | [], _, e => by cases e; rfl
  | d :: ds, ns, e => by
    cases d <;> first | (cases e; done) | skip
    obtain ⟨m, e1, e2⟩ := Option.map_eq_some_iff.mp e
    subst e2
    rw [intsD_eq e1]; rfl
theorem bolsD_eq : ∀ {ds : List D} {ns : List Bool}, bolsD ds = some ns → ds = ns.map .bool
  | [], _, e => by cases e; rfl
  | d :: ds, ns, e => by
    cases d <;> first | (cases e; done) | skip
    obtain ⟨m, e1, e2⟩ := Option.map_eq_some_iff.mp e
    subst e2
    rw [bolsD_eq e1]; rfl
def cSum : List D → Option D
  | [.list ds] => (intsD ds).map fun ns => .int ns.sum
  | _ => none
def cAny : List D → Option D
  | [.list ds] => (bolsD ds).map fun bs => .bool (bs.any id)
  | _ => none
def cAll : List D → Option D
  | [.list ds] => (bolsD ds).map fun bs => .bool (bs.all id)
  | _ => none
theorem a_sum {K : PySem.W.Frag} : OpA K (rSum K) cSum := by
  intro F H xs ds d Q s hx e k
  match ds, hx, e with
  | [.list ds], hx, e =>
    obtain ⟨x, rfl, q⟩ := one_of hx
    obtain ⟨ns, e1, e2⟩ := Option.map_eq_some_iff.mp e
    cases e2
    have := intsD_eq e1; subst this
    cases q with
    | lst q1 r1 => have := dp_ints_inv r1; subst this; exact ⟨_, ns, rfl, s.seq q1, k F H _ (Al.refl s) (.int _)⟩
theorem a_any {K : PySem.W.Frag} : OpA K (rAny K) cAny := by
  intro F H xs ds d Q s hx e k
  match ds, hx, e with
  | [.list ds], hx, e =>
    obtain ⟨x, rfl, q⟩ := one_of hx
    obtain ⟨ns, e1, e2⟩ := Option.map_eq_some_iff.mp e
    cases e2
    have := bolsD_eq e1; subst this
    cases q with
    | lst q1 r1 => have := dp_bls_inv r1; subst this; exact ⟨_, ns, rfl, s.seq q1, k F H _ (Al.refl s) (.bl _)⟩
theorem a_all {K : PySem.W.Frag} : OpA K (rAll K) cAll := by
  intro F H xs ds d Q s hx e k
  match ds, hx, e with
  | [.list ds], hx, e =>
    obtain ⟨x, rfl, q⟩ := one_of hx
    obtain ⟨ns, e1, e2⟩ := Option.map_eq_some_iff.mp e
    cases e2
    have := bolsD_eq e1; subst this
    cases q with
    | lst q1 r1 => have := dp_bls_inv r1; subst this; exact ⟨_, ns, rfl, s.seq q1, k F H _ (Al.refl s) (.bl _)⟩
/-! ### tuple(x), list(x) -/
def cTuple : List D → Option D
  | [.list ds] => some (.tuple ds)
  | [.tuple ds] => some (.tuple ds)
  | _ => none
abbrev rTupC (K : PySem.W.Frag) : List V → Hp → VK → Prop := fun xs H Q => ∃ p ys, xs = [.ref p] ∧ ((SqL K H p ys ∧ ∀ l, H l = none → Q (.ref l) (upd H l (.tup ys))) ∨ (SqT K H p ys ∧ Q (.ref p) H))
theorem a_tuple {K : PySem.W.Frag} : OpA K (rTupC K) cTuple := by
  intro F H xs ds d Q s hx e k
  match ds, hx, e with
  | [.list ds], hx, e =>
    obtain ⟨x, rfl, q⟩ := one_of hx
    cases e
    cases q with
    | @lst a vs _ q1 r1 =>
      refine ⟨a, vs, rfl, .inl ⟨s.seq q1, fun l nl => ?_⟩⟩
      have al := Al.laid (o := .tup vs) s nl
      exact k _ _ _ al (.tup (.inl (.inl upd_same)) (dpAll_mono al.ff r1))
  | [.tuple ds], hx, e =>
    obtain ⟨x, rfl, q⟩ := one_of hx
    cases e
    cases q with
    | @tup a vs _ q1 r1 => exact ⟨a, vs, rfl, .inr ⟨sqT_mono s q1, k F H _ (Al.refl s) (.tup q1 r1)⟩⟩
def cList : List D → Option Cell
  | [.list ds] => some (.ol ds)
  | [.tuple ds] => some (.ol ds)
  | _ => none
abbrev rLstC (K : PySem.W.Frag) : List V → Hp → VK → Prop := fun xs H Q => ∃ p ys, xs = [.ref p] ∧ (SqL K H p ys ∨ SqT K H p ys) ∧ ∀ l, H l = none → Q (.ref l) (upd H l (.lst ys))
theorem a_list {K : PySem.W.Frag} : OpAN K (rLstC K) cList := by
  intro F H xs ds c Q s hx e k
  match ds, hx, e with
  | [.list ds], hx, e =>
    obtain ⟨x, rfl, q⟩ := one_of hx
    cases e
    cases q with
    | @lst a vs _ q1 r1 =>
      refine ⟨a, vs, rfl, .inl (s.seq q1), fun l nl => ?_⟩
      have al := Al.laidH (o := .lst vs) s nl
      exact k _ _ l _ al upd_same r1 (s.free nl) nl
  | [.tuple ds], hx, e =>
    obtain ⟨x, rfl, q⟩ := one_of hx
    cases e
    cases q with
    | @tup a vs _ q1 r1 =>
      refine ⟨a, vs, rfl, .inr (sqT_mono s q1), fun l nl => ?_⟩
      have al := Al.laidH (o := .lst vs) s nl
      exact k _ _ l _ al upd_same r1 (s.free nl) nl
/-! ### sorted, min, max of a list or tuple of alike data -/
def alikeB (ds : List D) : Bool := (ds.all fun x => ds.all fun y => PySem.W.alike x y) && ds.all noNone && ds.all okD
def nonEmptyT : D → Bool
  | .tuple (_ :: _) => true
  | _ => false
def notTup : D → Bool
  | .tuple _ => false
  | .none => false
  | _ => true
def sortB (ds : List D) : Bool := alikeB ds && (ds.all nonEmptyT || ds.all notTup)
def sortD (ds : List D) : List D := ds.mergeSort (PySem.W.dataLe false id)
theorem alikeB_all {ds : List D} (h : alikeB ds = true) : PySem.W.AllAlike ds ∧ (∀ d ∈ ds, d ≠ .none) ∧ ∀ d ∈ ds, okD d = true := by
  unfold alikeB at h
  rw [Bool.and_eq_true, Bool.and_eq_true] at h
  obtain ⟨⟨h1, h2⟩, h3⟩ := h
  refine ⟨fun d hd e he => ?_, fun d hd => noNone_ne (List.all_eq_true.mp h2 d hd), fun d hd => List.all_eq_true.mp h3 d hd⟩
  exact List.all_eq_true.mp (List.all_eq_true.mp h1 d hd) e he
theorem sortB_all {ds : List D} (h : sortB ds = true) : PySem.W.AllAlike ds ∧ PySem.W.Sortable ds ∧ ∀ d ∈ ds, okD d = true := by
  unfold sortB at h
  rw [Bool.and_eq_true, Bool.or_eq_true] at h
  obtain ⟨h1, h2⟩ := h
  obtain ⟨a, b, c⟩ := alikeB_all h1
  refine ⟨a, ?_, c⟩
  rcases h2 with h2 | h2
  · refine .inl fun d hd => ?_
    have := List.all_eq_true.mp h2 d hd
    cases d with
    | tuple xs =>
      cases xs with
      | nil => cases this
      | cons x r => exact ⟨x, r, rfl⟩
    | _ => cases this
  · refine .inr fun d hd => ?_
    have := List.all_eq_true.mp h2 d hd
    refine ⟨fun e => ?_, fun xs e => ?_⟩ <;> (subst e; cases this)
abbrev DpV (K : PySem.W.Frag) (H : Hp) (u : Value) (d : D) : Prop := ∃ v, RelV v u ∧ Dp K H v d
theorem each_dp {K : PySem.W.Frag} {H : Hp} : ∀ {vs : List V} {us : List Value} {ds : List D}, Vals vs us → DpAll K H vs ds → PySem.W.EachIs (DpV K H) us ds
  | _, _, [], r, h => by cases h; cases r; exact .nil
  | _, _, d :: ds, r, h => by
    cases h with
    | cons q t =>
      cases r with
      | cons r1 r2 => exact .cons ⟨_, r1, q⟩ (each_dp r2 t)
theorem dp_each {K : PySem.W.Frag} {H : Hp} : ∀ {us : List Value} {ds : List D}, PySem.W.EachIs (DpV K H) us ds → ∃ vs, Vals vs us ∧ DpAll K H vs ds
  | [], _, h => by cases h; exact ⟨[], .nil, .nil⟩
  | u :: us, _, h => by
    cases h with
    | cons q t =>
      obtain ⟨v, r, d⟩ := q
      obtain ⟨vs, r2, d2⟩ := dp_each t
      exact ⟨v :: vs, .cons r r2, .cons d d2⟩
theorem reads_each {pins : List (Addr × Obj)} {σ : St} {H : Hp} {s : Shared} (I : Inv X pins σ H s) : ∀ {vs : List V} {us : List Value} {ds : List D}, Vals vs us → DpAll X.K H vs ds → PySem.W.EachIs (fun v b => ∃ as, Reads s.heap v (id b) as) us ds
  | _, _, [], r, h => by cases h; cases r; exact .nil
  | _, _, d :: ds, r, h => by
    cases h with
    | cons q t =>
      cases r with
      | cons r1 r2 => exact .cons (Dp.reads I d _ _ q r1) (reads_each I r2 t)
def cSorted : List D → Option Cell
  | [.list ds] => if sortB ds = true then some (.ol (sortD ds)) else none
  | _ => none
def rSrt (K : PySem.W.Frag) : List V → Hp → VK → Prop := fun xs H Q => ∃ F a vs ds, Same F H ∧ xs = [.ref a] ∧ SqL K H a vs ∧ DpAll K F vs ds ∧ sortB ds = true ∧ ∀ p ws, H p = none → DpAll K F ws (sortD ds) → Q (.ref p) (upd H p (.lst ws))
theorem call_srt (hu : X.A.units + 100 < cLine) : CallR X (.builtin "sorted") (rSrt X.K) := by
  intro pins s σ H xs us Q I r h
  obtain ⟨F, a, vs, ds, sm, rfl, hq, hd, hs, q⟩ := h
  obtain ⟨u, rfl, rx⟩ := vals1 r
  cases rx
  obtain ⟨its, rv, pl, hz⟩ := I.list hq
  obtain ⟨al, sb, ok⟩ := sortB_all hs
  have hl : ds.length ≤ sizeLine := by rw [← hd.length]; exact hz
  refine PySem.W.sorted_data (enc := id) (R := DpV X.K F) pl.isList (each_dp rv hd) (reads_each I rv (dpAll_mono sm hd)) (by rw [List.map_id]; exact al) (by rw [List.map_id]; exact sb) hl (fun b hb => ?_) fun out ho eo => ?_
  · have := SeqAt.depth_of_shaped (ok b hb)
    show X.A.units + 2 + b.depth < cLine
    omega
  · obtain ⟨ws, r2, d2⟩ := dp_each eo
    obtain ⟨ep, he'⟩ := PyProof.Rows.sortedAll_at s.heap its (List.toArray out)
    have hlen : ws.length ≤ sizeLine := by rw [r2.length, ho]; exact hl
    exact ⟨.ref _, upd H (s.heap.objs.size + 1) (.lst ws), I.laid (t' := s.toks) (fun _ _ => PyProof.Rows.sortedAll_old) (Nat.le_succ _) ⟨hlen, out, ep, r2, he'⟩, rfl, q _ ws (I.hok.fresh (Nat.le_succ _)) d2⟩
theorem a_sorted {K : PySem.W.Frag} : OpAN K (rSrt K) cSorted := by
  intro F H xs ds c Q s hx e k
  match ds, hx, e with
  | [.list ds], hx, e =>
    obtain ⟨x, rfl, q⟩ := one_of hx
    have e : (if sortB ds = true then some (Cell.ol (sortD ds)) else none) = some c := e
    by_cases hz : sortB ds = true
    · rw [if_pos hz] at e; cases e
      cases q with
      | @lst a vs _ q1 r1 =>
        refine ⟨F, a, vs, ds, s, rfl, s.seq q1, r1, hz, fun p ws np dw => ?_⟩
        have al := Al.laidH (o := .lst ws) s np
        exact k _ _ p _ al upd_same dw (s.free np) np
    · rw [if_neg hz] at e; cases e
/-- min(xs), max(xs) -/
def cMinL : List D → Option D
  | [.list (x :: ds)] => if alikeB (x :: ds) = true then some (PySem.W.minD x ds) else none
  | [.tuple (x :: ds)] => if alikeB (x :: ds) = true then some (PySem.W.minD x ds) else none
  | _ => none
def cMaxL : List D → Option D
  | [.list (x :: ds)] => if alikeB (x :: ds) = true then some (PySem.W.maxD x ds) else none
  | [.tuple (x :: ds)] => if alikeB (x :: ds) = true then some (PySem.W.maxD x ds) else none
  | _ => none
def rBest (K : PySem.W.Frag) (g : D → List D → D) : List V → Hp → VK → Prop := fun xs H Q => ∃ F a vs x ds, Same F H ∧ xs = [.ref a] ∧ (SqL K H a vs ∨ SqT K H a vs) ∧ DpAll K F vs (x :: ds) ∧ alikeB (x :: ds) = true ∧ ∀ v, Dp K F v (g x ds) → Q v H
theorem depthAll_le {ds : List D} (h : ∀ d ∈ ds, okD d = true) : PyData.depthAll ds ≤ 64 := by
  induction ds with
  | nil => exact Nat.zero_le _
  | cons d ds ih =>
    have h1 := SeqAt.depth_of_shaped (h d List.mem_cons_self)
    have h2 := ih fun e he => h e (List.mem_cons_of_mem _ he)
    show max d.depth (PyData.depthAll ds) ≤ 64
    omega
theorem best_item {pins : List (Addr × Obj)} {σ : St} {F H : Hp} {s : Shared} (I : Inv X pins σ H s) (sm : Same F H) {vs : List V} {its : List Value} {ds : List D} {d : D} {i : Nat} {u : Value} {h' : Heap} {bs : List Addr}
    (hok : ∀ e ∈ ds, okD e = true) (rv : Vals vs its) (hd : DpAll X.K F vs ds) (hu : its.toArray[i]? = some u) (hr : Reads h' u d bs) (hk : ∀ b o, s.heap.get? b = some o → h'.get? b = some o) : ∃ v, RelV v u ∧ Dp X.K F v d := by
  have hu2 : its[i]? = some u := by simpa using hu
  have hi : i < vs.length := by
    rw [rv.length]
    exact (List.getElem?_eq_some_iff.mp hu2).1
  obtain ⟨w, e1, r1⟩ := rv.get (List.getElem?_eq_getElem hi)
  rw [hu2] at e1
  cases e1
  obtain ⟨d0, e2, q⟩ := hd.get (List.getElem?_eq_getElem hi)
  obtain ⟨as, r2⟩ := Dp.reads I d0 _ _ (dp_mono sm q) r1
  have c0 : d0.canLay0 = true := SeqAt.canLay_of_shaped (hok d0 (List.mem_of_getElem? e2))
  have r3 : Reads h' u d0 as := PySem.W.reads_keeps hk r2
  have e3 : d0 = d := PySem.SeqAt.Reads.unique d0 _ _ _ _ c0 r3 hr
  subst e3
  exact ⟨_, r1, q⟩
theorem call_minB (hc : X.calm = true) (hu : X.A.units + 100 < cLine) : CallR X (.builtin "min") (rBest X.K PySem.W.minD) := by
  intro pins s σ H xs us Q I r h
  obtain ⟨F, a, vs, x, ds, sm, rfl, hq, hd, hs, q⟩ := h
  obtain ⟨u, rfl, rx⟩ := vals1 r
  cases rx
  obtain ⟨al, nn, ok⟩ := alikeB_all hs
  have hdp : X.A.units + 1 + PyData.depthAll (x :: ds) < cLine := by
    have := depthAll_le ok
    omega
  rcases hq with hq | hq
  · obtain ⟨its, rv, pl, hz⟩ := I.list hq
    obtain ⟨as, ra⟩ := Dp.readsAll I _ _ its (dpAll_mono sm hd) rv
    refine PySem.W.min_list_data (I.ok.hd hc) pl.isList (show ReadsAll s.heap its.toArray.toList _ as from ra) ⟨al, nn⟩ hdp fun i v h' tk bs e1 e2 hk => ?_
    obtain ⟨w, r1, d1⟩ := best_item I sm ok rv hd e1 e2 hk
    exact ⟨w, H, I.kept hk, r1, q w d1⟩
  · obtain ⟨its, rv, pl, hz⟩ := I.tuple hq
    obtain ⟨as, ra⟩ := Dp.readsAll I _ _ its (dpAll_mono sm hd) rv
    refine PySem.W.min_tuple_data (I.ok.hd hc) pl (show ReadsAll s.heap its.toArray.toList _ as from ra) ⟨al, nn⟩ hdp fun i v h' tk bs e1 e2 hk => ?_
    obtain ⟨w, r1, d1⟩ := best_item I sm ok rv hd e1 e2 hk
    exact ⟨w, H, I.kept hk, r1, q w d1⟩
theorem call_maxB (hc : X.calm = true) (hu : X.A.units + 100 < cLine) : CallR X (.builtin "max") (rBest X.K PySem.W.maxD) := by
  intro pins s σ H xs us Q I r h
  obtain ⟨F, a, vs, x, ds, sm, rfl, hq, hd, hs, q⟩ := h
  obtain ⟨u, rfl, rx⟩ := vals1 r
  cases rx
  obtain ⟨al, nn, ok⟩ := alikeB_all hs
  have hdp : X.A.units + 1 + PyData.depthAll (x :: ds) < cLine := by
    have := depthAll_le ok
    omega
  rcases hq with hq | hq
  · obtain ⟨its, rv, pl, hz⟩ := I.list hq
    obtain ⟨as, ra⟩ := Dp.readsAll I _ _ its (dpAll_mono sm hd) rv
    refine PySem.W.max_list_data (I.ok.hd hc) pl.isList (show ReadsAll s.heap its.toArray.toList _ as from ra) ⟨al, nn⟩ hdp fun i v h' tk bs e1 e2 hk => ?_
    obtain ⟨w, r1, d1⟩ := best_item I sm ok rv hd e1 e2 hk
    exact ⟨w, H, I.kept hk, r1, q w d1⟩
  · obtain ⟨its, rv, pl, hz⟩ := I.tuple hq
    obtain ⟨as, ra⟩ := Dp.readsAll I _ _ its (dpAll_mono sm hd) rv
    refine PySem.W.max_tuple_data (I.ok.hd hc) pl (show ReadsAll s.heap its.toArray.toList _ as from ra) ⟨al, nn⟩ hdp fun i v h' tk bs e1 e2 hk => ?_
    obtain ⟨w, r1, d1⟩ := best_item I sm ok rv hd e1 e2 hk
    exact ⟨w, H, I.kept hk, r1, q w d1⟩
theorem a_minL {K : PySem.W.Frag} : OpA K (rBest K PySem.W.minD) cMinL := by
  intro F H xs ds d Q s hx e k
  match ds, hx, e with
  | [.list (y :: ds)], hx, e =>
    obtain ⟨x, rfl, q⟩ := one_of hx
    have e : (if alikeB (y :: ds) = true then some (PySem.W.minD y ds) else none) = some d := e
    by_cases hz : alikeB (y :: ds) = true
    · rw [if_pos hz] at e; cases e
      cases q with
      | @lst a vs _ q1 r1 => exact ⟨F, a, vs, y, ds, s, rfl, .inl (s.seq q1), r1, hz, fun v dv => k F H v (Al.refl s) dv⟩
    · rw [if_neg hz] at e; cases e
  | [.tuple (y :: ds)], hx, e =>
    obtain ⟨x, rfl, q⟩ := one_of hx
    have e : (if alikeB (y :: ds) = true then some (PySem.W.minD y ds) else none) = some d := e
    by_cases hz : alikeB (y :: ds) = true
    · rw [if_pos hz] at e; cases e
      cases q with
      | @tup a vs _ q1 r1 => exact ⟨F, a, vs, y, ds, s, rfl, .inr (sqT_mono s q1), r1, hz, fun v dv => k F H v (Al.refl s) dv⟩
    · rw [if_neg hz] at e; cases e
theorem a_maxL {K : PySem.W.Frag} : OpA K (rBest K PySem.W.maxD) cMaxL := by
  intro F H xs ds d Q s hx e k
  match ds, hx, e with
  | [.list (y :: ds)], hx, e =>
    obtain ⟨x, rfl, q⟩ := one_of hx
    have e : (if alikeB (y :: ds) = true then some (PySem.W.maxD y ds) else none) = some d := e
    by_cases hz : alikeB (y :: ds) = true
    · rw [if_pos hz] at e; cases e
      cases q with
      | @lst a vs _ q1 r1 => exact ⟨F, a, vs, y, ds, s, rfl, .inl (s.seq q1), r1, hz, fun v dv => k F H v (Al.refl s) dv⟩
    · rw [if_neg hz] at e; cases e
  | [.tuple (y :: ds)], hx, e =>
    obtain ⟨x, rfl, q⟩ := one_of hx
    have e : (if alikeB (y :: ds) = true then some (PySem.W.maxD y ds) else none) = some d := e
    by_cases hz : alikeB (y :: ds) = true
    · rw [if_pos hz] at e; cases e
      cases q with
      | @tup a vs _ q1 r1 => exact ⟨F, a, vs, y, ds, s, rfl, .inr (sqT_mono s q1), r1, hz, fun v dv => k F H v (Al.refl s) dv⟩
    · rw [if_neg hz] at e; cases e
/-! ### isinstance(x, T) -/
def tyN : D → String
  | .none => "NoneType"
  | .bool _ => "bool"
  | .int _ => "int"
  | .str _ => "str"
  | .list _ => "list"
  | .tuple _ => "tuple"
  | .dict _ => "dict"
theorem tyX_dp {K : PySem.W.Frag} {H : Hp} {v : V} {d : D} (h : Dp K H v d) : TyX K H v (.type (tyN d)) := by
  cases h with
  | non => exact .base .non
  | bl b => exact .base (.bl b)
  | int i => exact .base (.int i)
  | str x => exact .base (.str x)
  | lst q _ =>
    rcases q with (q | ⟨o, q⟩) | ⟨o, its, n, q, c, _⟩
    · exact .base (.lst q)
    · exact .base (.frz q)
    · exact .kList q c
  | tup q _ =>
    rcases q with (q | ⟨o, q⟩) | ⟨o, its, n, q, c, _⟩
    · exact .base (.tup q)
    · exact .fTuple q
    · exact .kTuple q c
def eIsi (T : String) (fa : FE) : FE := fun ρ => (fa ρ).bind fun p => (kitB (tyN p.1) T).map fun b => (.bool b, p.2)
theorem de_isi {a : Expr} {ta : TE} {fa : FE} {T : String} {y x : Str} {p p2 pos : Pos} (ha : DE X a ta fa) (hx : X.mg x = none) (hy : X.mg y = none) (hv : bootBuiltins x = some (.builtin "isinstance") := by decide +kernel) (hT : bootBuiltins y = some (.type T) := by decide +kernel)
    (hg : Gl X x := by rfl) (hg2 : Gl X y := by rfl) (hn : x ≠ "__name__" := by decide) (hn2 : y ≠ "__name__" := by decide) (hdb : (x == ("__debug__" : Str)) = false := by decide) (hdb2 : (y == ("__debug__" : Str)) = false := by decide)
    (s1 : starEach [a, .Name y p2] X.env = (false, eval a X.env) :: starEach [.Name y p2] X.env := by rfl) (s2 : starEach [.Name y p2] X.env = (false, eval (.Name y p2) X.env) :: starEach [] X.env := by rfl) (hpl : (backTo pos (starEach [.Name y p2] X.env)).any (·.1) = false := by rfl) :
    DE X (.Call (.Name x p) [a, .Name y p2] [] pos) (tCB (rIsi X.K) (tCons ta (tCons (tC (.ty T)) tNil))) (eIsi T fa) := by
  refine ⟨pe_callB call_isi hg hx hv (pa_cons ha.pe (pa_cons (pe_bltn hg2 hy hT rfl hn2 hdb2) pa_nil s2) s1) hn hdb s1 hpl, ?_⟩
  intro B F io σ H ρ d ρ' Q c e k
  obtain ⟨q, e1, e⟩ := Option.bind_eq_some_iff.mp e
  obtain ⟨z, e3, e⟩ := Option.map_eq_some_iff.mp e
  cases e
  exact ha.se B F io σ H ρ q.1 q.2 _ c e1 fun F1 H1 v g1 c1 d1 => ⟨v, .ty T, _, _, z, rfl, .ty T, tyX_dp (dp_mono c1.frz d1), kit_ty e3, k F1 H1 _ g1 c1 (.bl z)⟩
end
end L2.Pd

namespace L2.Pd
open PySem PySem.Spec PyProof.Rows
/-! ## Statements -/
inductive Out where
  | nx (ρ : En)
  | rt (c : Cell) (ρ : En)
  | bk (ρ : En)
  | ct (ρ : En)
abbrev FS := En → Option Out
/-- what a def hands back -/
def RetOk (K : PySem.W.Frag) (B F : Hp) (σ : St) (H : Hp) (ρ : En) (v : V) : Cell → Prop
  | .dead => False
  | .sh d => Dp K F v d
  | c => ∃ a o, v = .ref a ∧ H a = some o ∧ Ob K F c o ∧ F a = none ∧ B a = none ∧ NotOwned σ ρ a
def Post (K : PySem.W.Frag) (B F : Hp) (io : List (Nat × Addr)) (Dn : Ends) : Out → Prop
  | .nx ρ' => ∀ F' σ' H', Gr B F F' → Con K B F' io σ' H' ρ' → Dn.nx σ' H'
  | .bk ρ' => ∀ F' σ' H', Gr B F F' → Con K B F' io σ' H' ρ' → Dn.bk σ' H'
  | .ct ρ' => ∀ F' σ' H', Gr B F F' → Con K B F' io σ' H' ρ' → Dn.ct σ' H'
  | .rt c ρ' => ∀ F' σ' H' v, Gr B F F' → Con K B F' io σ' H' ρ' → RetOk K B F' σ' H' ρ' v c → Dn.rt v H'
theorem Post.mono {K : PySem.W.Frag} {B F F1 : Hp} {io : List (Nat × Addr)} {Dn : Ends} {o : Out} (p : Post K B F io Dn o) (g : Gr B F F1) : Post K B F1 io Dn o := by
  cases o with
  | nx ρ => exact fun F' σ' H' g' c => p F' σ' H' (g.trans g') c
  | bk ρ => exact fun F' σ' H' g' c => p F' σ' H' (g.trans g') c
  | ct ρ => exact fun F' σ' H' g' c => p F' σ' H' (g.trans g') c
  | rt c ρ => exact fun F' σ' H' v g' c => p F' σ' H' v (g.trans g') c
def SS (K : PySem.W.Frag) (L : List Nat) (t : TS) (f : FS) : Prop := ∀ (B F : Hp) (io : List (Nat × Addr)) (σ : St) (H : Hp) (ρ : En) (o : Out) (Dn : Ends), io.map (·.1) = L → Con K B F io σ H ρ → f ρ = some o → Post K B F io Dn o → t Dn σ H
structure DS (X : Cx) (L : List Nat) (st : Stmt) (t : TS) (f : FS) : Prop where
  pe : PS X st t
  se : SS X.K L t f
structure DSs (X : Cx) (L : List Nat) (st : List Stmt) (t : TS) (f : FS) : Prop where
  pe : PSs X st t
  se : SS X.K L t f
def sSeq (f g : FS) : FS := fun ρ => (f ρ).bind fun o => match o with
  | .nx ρ' => g ρ'
  | o => some o
def sNx : FS := fun ρ => some (.nx ρ)
section
variable {X : Cx} {L : List Nat} {st : Stmt} {rest : List Stmt} {t u : TS} {f g : FS} {pos : Pos}
theorem dss_nil : DSs X L [] tNext sNx := ⟨pss_nil, fun B F io σ H ρ o Dn hL c e p => by cases e; exact p F σ H (Gr.refl _ _) c⟩
theorem dss_cons (h1 : DS X L st t f) (h2 : DSs X L rest u g) : DSs X L (st :: rest) (tSeq t u) (sSeq f g) := by
  refine ⟨pss_cons h1.pe h2.pe, ?_⟩
  intro B F io σ H ρ o Dn hL c e p
  obtain ⟨o1, e1, e⟩ := Option.bind_eq_some_iff.mp e
  refine h1.se B F io σ H ρ o1 { Dn with nx := u Dn } hL c e1 ?_
  cases o1 with
  | nx ρ1 => exact fun F' σ' H' g' c' => h2.se B F' io σ' H' ρ1 o Dn hL c' e (p.mono g')
  | bk ρ1 => cases e; exact p
  | ct ρ1 => cases e; exact p
  | rt c1 ρ1 => cases e; exact p
theorem dss_one (h1 : DS X L st t f) : DSs X L [st] t f := ⟨pss_one h1.pe, h1.se⟩
theorem ds_pass : DS X L (.Pass pos) tNext sNx := ⟨ps_pass, fun B F io σ H ρ o Dn hL c e p => by cases e; exact p F σ H (Gr.refl _ _) c⟩
def sBrk : FS := fun ρ => some (.bk ρ)
def sCnt : FS := fun ρ => some (.ct ρ)
theorem ds_break : DS X L (.Break pos) tBreak sBrk := ⟨ps_break, fun B F io σ H ρ o Dn hL c e p => by cases e; exact p F σ H (Gr.refl _ _) c⟩
theorem ds_continue : DS X L (.Continue pos) tCont sCnt := ⟨ps_continue, fun B F io σ H ρ o Dn hL c e p => by cases e; exact p F σ H (Gr.refl _ _) c⟩
/-! ### return -/
def sRet (f : FE) : FS := fun ρ => (f ρ).map fun p => .rt (.sh p.1) p.2
def sRetNew (f : FN) : FS := fun ρ => (f ρ).map fun p => .rt p.1 p.2
def sRetN : FS := fun ρ => some (.rt (.sh .none) ρ)
def sRetOwn (i : Nat) : FS := fun ρ => match ρ[i]? with
  | some (.ol ds) => some (.rt (.ol ds) (ρ.set i .dead))
  | some (.od ds) => some (.rt (.od ds) (ρ.set i .dead))
  | some (.ot ds) => some (.rt (.ot ds) (ρ.set i .dead))
  | some (.os ds) => some (.rt (.os ds) (ρ.set i .dead))
  | some (.sh d) => some (.rt (.sh d) ρ)
  | _ => none
variable {e : Expr} {te : TE} {fe : FE} {fn : FN}
theorem ds_ret (he : DE X e te fe) : DS X L (.Return (some e) pos) (tRet te) (sRet fe) := ⟨ps_ret he.pe, fun B F io σ H ρ o Dn hL c h p => by
  obtain ⟨q, e1, e2⟩ := Option.map_eq_some_iff.mp h
  subst e2
  exact he.se B F io σ H ρ q.1 q.2 _ c e1 fun F' H' v g c' d => p F' σ H' v g c' d⟩
theorem retOk_own {K : PySem.W.Frag} {B F : Hp} {σ : St} {H : Hp} {ρ : En} {v : V} {c : Cell} (h : isOwn c = true) : RetOk K B F σ H ρ v c ↔ ∃ a o, v = .ref a ∧ H a = some o ∧ Ob K F c o ∧ F a = none ∧ B a = none ∧ NotOwned σ ρ a := by
  cases c <;> first | exact Iff.rfl | (cases h)
theorem ds_retNew (he : DN X e te fn) : DS X L (.Return (some e) pos) (tRet te) (sRetNew fn) := ⟨ps_ret he.pe, fun B F io σ H ρ o Dn hL c h p => by
  obtain ⟨q, e1, e2⟩ := Option.map_eq_some_iff.mp h
  subst e2
  exact he.se B F io σ H ρ q.1 q.2 _ c e1 fun F' H' a o g c' h1 h2 h3 h4 h5 => p F' σ H' _ g c' ((retOk_own (ob_own h2)).mpr ⟨a, o, rfl, h1, h2, h3, h4, h5⟩)⟩
theorem ds_retN : DS X L (.Return none pos) tRetN sRetN := ⟨ps_retN, fun B F io σ H ρ o Dn hL c e p => by cases e; exact p F σ H _ (Gr.refl _ _) c .non⟩
theorem ds_retOwn (i : Nat) {x : Str} {p' : Pos} (hN : X.N[i]? = some x := by rfl) (hv : Vis X.env.scope x := by first | exact Or.inl rfl | exact Or.inr (Or.inl rfl) | exact Or.inr (Or.inr rfl)) (hd : (x == ("__debug__" : Str)) = false := by decide)
    (hcd : (x == ("__classdict__" : Str)) = false := by decide) : DS X L (.Return (some (.Name x p')) pos) (tRet (tVar i)) (sRetOwn i) := ⟨ps_ret (pe_var hN hv hd hcd), fun B F io σ H ρ o Dn hL c h p => by
  unfold sRetOwn at h
  cases q : ρ[i]? with
  | none => rw [q] at h; cases h
  | some u =>
    rw [q] at h
    by_cases ho : isOwn u = true
    · have e2 : o = .rt u (ρ.set i .dead) := by cases u <;> first | (cases ho; done) | (exact (Option.some.inj h).symm)
      subst e2
      obtain ⟨a, w, h1, h2, h3, h4, h5⟩ := c.own q ho
      refine ⟨.ref a, h1, p F σ H _ (Gr.refl _ _) (c.kill i) ((retOk_own ho).mpr ⟨a, w, rfl, h2, h3, h4, h5, fun j e he hj hs => ?_⟩)⟩
      rcases get_set_cases he with ⟨rfl, rfl, hl⟩ | ⟨ne, he⟩
      · cases hj
      · exact ne (c.sep j i e u a he q hj ho hs h1)
    · cases u with
      | sh d =>
        cases h
        obtain ⟨x, hx, v, rfl, dd⟩ := c.cell i _ q
        exact ⟨v, hx, p F σ H v (Gr.refl _ _) c dd⟩
      | dead => cases h
      | _ => exact absurd rfl ho⟩
/-! ### expression statements, if -/
def sExpr (f : FE) : FS := fun ρ => (f ρ).map fun p => .nx p.2
theorem ds_expr (he : DE X e te fe) (hs : swapsWith e none pos.line X.env = pure false := by rfl) : DS X L (.Expr e pos) (tDrop te) (sExpr fe) := ⟨ps_expr he.pe hs, fun B F io σ H ρ o Dn hL c h p => by
  obtain ⟨q, e1, e2⟩ := Option.map_eq_some_iff.mp h
  subst e2
  exact he.se B F io σ H ρ q.1 q.2 _ c e1 fun F' H' v g c' d => p F' σ H' g c'⟩
def sIf (c : FT) (f g : FS) : FS := fun ρ => (c ρ).bind fun p => if p.1 = true then f p.2 else g p.2
theorem ds_if {c : Expr} {a b : List Stmt} {tc : TT} {fc : FT} (hc : DT X c tc fc) (ha : DSs X L a t f) (hb : DSs X L b u g) : DS X L (.If c a b pos) (tIfS tc t u) (sIf fc f g) := ⟨ps_if hc.pe ha.pe hb.pe, fun B F io σ H ρ o Dn hL c h p => by
  obtain ⟨q, e1, h⟩ := Option.bind_eq_some_iff.mp h
  refine hc.se B F io σ H ρ q.1 q.2 _ c e1 fun F' H' g' c' => ?_
  by_cases hq : q.1 = true
  · rw [if_pos hq] at h ⊢
    exact ha.se B F' io σ H' q.2 o Dn hL c' h (p.mono g')
  · rw [if_neg hq] at h ⊢
    exact hb.se B F' io σ H' q.2 o Dn hL c' h (p.mono g')⟩
/-! ### stores to names -/
def sSet (i : Nat) (f : FE) : FS := fun ρ => (f ρ).map fun p => .nx (p.2.set i (.sh p.1))
def sSetN (i : Nat) (f : FN) : FS := fun ρ => (f ρ).map fun p => .nx (p.2.set i p.1)
theorem ss_set {K : PySem.W.Frag} {i : Nat} (hi : i ∉ L) (he : SE K te fe) : SS K L (tAsg te (gName i)) (sSet i fe) := fun B F io σ H ρ o Dn hL c h p => by
  obtain ⟨q, e1, e2⟩ := Option.map_eq_some_iff.mp h
  subst e2
  exact he B F io σ H ρ q.1 q.2 _ c e1 fun F' H' v g c' d => p F' _ H' g (c'.set_sh (by rw [hL]; exact hi) d)
theorem ss_setN {K : PySem.W.Frag} {i : Nat} (hi : i ∉ L) (he : SN K te fn) : SS K L (tAsg te (gName i)) (sSetN i fn) := fun B F io σ H ρ o Dn hL c h p => by
  obtain ⟨q, e1, e2⟩ := Option.map_eq_some_iff.mp h
  subst e2
  exact he B F io σ H ρ q.1 q.2 _ c e1 fun F' H' a o g c' h1 h2 h3 h4 h5 => p F' _ H' g (c'.set_own (by rw [hL]; exact hi) h1 h2 h3 h4 h5)
theorem ds_set {i : Nat} {x : Str} {pos' : Pos} (hN : X.N.Nodup) (he : DE X e te fe) (hi : X.N[i]? = some x := by rfl) (hl : i ∉ L := by decide) (hx : Loc X.env.scope x := by first | exact Or.inl rfl | exact Or.inr rfl) (hs : swapsWith e (some (.Name x pos')) pos.line X.env = pure false := by rfl)
    (hf : X.fn x = true ∨ X.env.scope.names.lookup x = some .local := by first | exact .inl rfl | exact .inr rfl | assumption) : DS X L (.Assign [.Name x pos'] e pos) (tAsg te (gName i)) (sSet i fe) := ⟨ps_set hN hi hx he.pe hs hf, ss_set hl he.se⟩
theorem ds_setN {i : Nat} {x : Str} {pos' : Pos} (hN : X.N.Nodup) (he : DN X e te fn) (hi : X.N[i]? = some x := by rfl) (hl : i ∉ L := by decide) (hx : Loc X.env.scope x := by first | exact Or.inl rfl | exact Or.inr rfl) (hs : swapsWith e (some (.Name x pos')) pos.line X.env = pure false := by rfl)
    (hf : X.fn x = true ∨ X.env.scope.names.lookup x = some .local := by first | exact .inl rfl | exact .inr rfl | assumption) : DS X L (.Assign [.Name x pos'] e pos) (tAsg te (gName i)) (sSetN i fn) := ⟨ps_set hN hi hx he.pe hs hf, ss_setN hl he.se⟩
/-! ### targets -/
abbrev FG := D → En → Option En
abbrev FGs := List D → En → Option En
/-- only these slots have been stored to -/
def Off (ws : List Nat) (σ σ' : St) : Prop := σ'.length = σ.length ∧ ∀ i, i ∉ ws → σ'[i]? = σ[i]?
theorem Off.refl (σ : St) : Off [] σ σ := ⟨rfl, fun _ _ => rfl⟩
theorem Off.trans {ws vs : List Nat} {σ σ' σ'' : St} (a : Off ws σ σ') (b : Off vs σ' σ'') : Off (ws ++ vs) σ σ'' := ⟨b.1.trans a.1, fun i hi => by
  rw [List.mem_append, not_or] at hi
  exact (b.2 i hi.2).trans (a.2 i hi.1)⟩
theorem Off.set (σ : St) (i : Nat) (x : Option V) : Off [i] σ (σ.set i x) := ⟨List.length_set, fun j hj => List.getElem?_set_ne (fun e => hj (by rw [e]; exact List.mem_singleton.mpr rfl))⟩
def SG (K : PySem.W.Frag) (L ws : List Nat) (t : TG) (g : FG) : Prop := ∀ (B F : Hp) (io : List (Nat × Addr)) (σ : St) (H : Hp) (ρ : En) (v : V) (d : D) (ρ' : En) (Q : St → Hp → Prop), io.map (·.1) = L → Con K B F io σ H ρ → Dp K F v d → g d ρ = some ρ' →
  (∀ F' σ' H', Gr B F F' → Con K B F' io σ' H' ρ' → Off ws σ σ' → Q σ' H') → t v σ H Q
def SGs (K : PySem.W.Frag) (L ws : List Nat) (t : TGs) (g : FGs) : Prop := ∀ (B F : Hp) (io : List (Nat × Addr)) (σ : St) (H : Hp) (ρ : En) (vs : List V) (ds : List D) (ρ' : En) (Q : St → Hp → Prop), io.map (·.1) = L → Con K B F io σ H ρ → DpAll K F vs ds → g ds ρ = some ρ' →
  (∀ F' σ' H', Gr B F F' → Con K B F' io σ' H' ρ' → Off ws σ σ' → Q σ' H') → t vs σ H Q
structure DG (X : Cx) (L ws : List Nat) (e : Expr) (t : TG) (g : FG) : Prop where
  pe : PG X e t
  se : SG X.K L ws t g
structure DGs (X : Cx) (L ws : List Nat) (es : List Expr) (t : TGs) (g : FGs) : Prop where
  pe : PGs X es t
  se : SGs X.K L ws t g
def gNm (i : Nat) : FG := fun d ρ => some (ρ.set i (.sh d))
def gNl : FGs := fun ds ρ => match ds with
  | [] => some ρ
  | _ => none
def gCn (g : FG) (h : FGs) : FGs := fun ds ρ => match ds with
  | d :: r => (g d ρ).bind (h r)
  | _ => none
def gTp (n : Nat) (h : FGs) : FG := fun d ρ => match d with
  | .tuple ds => if ds.length = n then h ds ρ else none
  | .list ds => if ds.length = n then h ds ρ else none
  | _ => none
/-- a tuple or a list, taken apart -/
abbrev gTupA (K : PySem.W.Frag) (n : Nat) (t : TGs) : TG := fun v σ H Q => gTup K n t v σ H Q ∨ gUnl K n t v σ H Q
theorem sg_name {K : PySem.W.Frag} {i : Nat} (hl : i ∉ L) : SG K L [i] (gName i) (gNm i) := fun B F io σ H ρ v d ρ' Q hL c dd e k => by
  cases e
  exact k F _ H (Gr.refl _ _) (c.set_sh (by rw [hL]; exact hl) dd) (Off.set σ i _)
theorem dg_name (i : Nat) {x : Str} (hN : X.N.Nodup) (hi : X.N[i]? = some x := by rfl) (hl : i ∉ L := by decide) (hx : Loc X.env.scope x := by first | exact Or.inl rfl | exact Or.inr rfl) (hf : X.fn x = true ∨ X.env.scope.names.lookup x = some .local := by first | exact .inl rfl | exact .inr rfl | assumption) :
    DG X L [i] (.Name x pos) (gName i) (gNm i) := ⟨pg_name hN hi hx hf, sg_name hl⟩
theorem dgs_nil : DGs X L [] [] gNil gNl := ⟨pgs_nil, fun B F io σ H ρ vs ds ρ' Q hL c dd e k => by
  cases ds with
  | nil => cases e; cases dd; exact ⟨rfl, k F σ H (Gr.refl _ _) c (Off.refl σ)⟩
  | cons d r => cases e⟩
theorem dgs_cons {es : List Expr} {ws ws2 : List Nat} {t1 : TG} {t2 : TGs} {g1 : FG} {g2 : FGs} (h1 : DG X L ws e t1 g1) (h2 : DGs X L ws2 es t2 g2) (hs : (assignEach (e :: es) X.env).map (·.2) = assign e X.env :: (assignEach es X.env).map (·.2) := by rfl) : DGs X L (ws ++ ws2) (e :: es) (gCons t1 t2) (gCn g1 g2) :=
  ⟨pgs_cons h1.pe h2.pe hs, fun B F io σ H ρ vs ds ρ' Q hL c dd e k => by
    cases ds with
    | nil => cases e
    | cons d r =>
      obtain ⟨ρ1, e1, e2⟩ := Option.bind_eq_some_iff.mp e
      cases dd with
      | cons q q' =>
        refine ⟨_, _, rfl, h1.se B F io σ H ρ _ d ρ1 _ hL c q e1 fun F1 σ1 H1 gr1 c1 o1 => ?_⟩
        exact h2.se B F1 io σ1 H1 ρ1 _ r ρ' Q hL c1 (dpAll_mono gr1.sub q') e2 fun F2 σ2 H2 gr2 c2 o2 => k F2 σ2 H2 (gr1.trans gr2) c2 (o1.trans o2)⟩
theorem dg_tup {es : List Expr} {ws : List Nat} {k0 : Nat} {t2 : TGs} {g2 : FGs} {n : Nat} (hc : X.calm = true) (h : DGs X L ws es t2 g2) (hn : (assignEach es X.env).length = n := by rfl) (hst : (assignEach es X.env).findIdx? (·.1) = none := by rfl) : DG X L ws (.Tuple es k0 pos) (gTupA X.K n t2) (gTp n g2) :=
  ⟨⟨fun pins s σ H v u Q I r hw => by
    rcases hw with hw | hw
    · exact (pg_tup hc h.pe hn hst).run pins s σ H v u Q I r hw
    · exact (pg_unl hc h.pe hn hst).run pins s σ H v u Q I r hw⟩, fun B F io σ H ρ v d ρ' Q hL c dd e k => by
    cases dd with
    | @tup a vs ds q r =>
      have e : (if ds.length = n then g2 ds ρ else none) = some ρ' := e
      by_cases hz : ds.length = n
      · rw [if_pos hz] at e
        exact .inl ⟨a, vs, rfl, sqT_mono c.frz q, by rw [r.length]; exact hz, h.se B F io σ H ρ vs ds ρ' Q hL c r e k⟩
      · rw [if_neg hz] at e; cases e
    | @lst a vs ds q r =>
      have e : (if ds.length = n then g2 ds ρ else none) = some ρ' := e
      by_cases hz : ds.length = n
      · rw [if_pos hz] at e
        exact .inr ⟨a, vs, rfl, c.frz.seq q, by rw [r.length]; exact hz, h.se B F io σ H ρ vs ds ρ' Q hL c r e k⟩
      · rw [if_neg hz] at e; cases e
    | _ => cases e⟩
def sAsg (f : FE) (g : FG) : FS := fun ρ => (f ρ).bind fun p => (g p.1 p.2).map .nx
theorem ds_asg {tg : Expr} {ws : List Nat} {t1 : TG} {g1 : FG} (he : DE X e te fe) (hg : DG X L ws tg t1 g1) (hs : swapsWithSole [tg] e pos.line X.env = pure false := by rfl) (hw : swappedStores [tg] e X.env = pure none := by rfl)
    (h1 : (assignEach [tg] X.env).map (·.2) = [assign tg X.env] := by rfl) : DS X L (.Assign [tg] e pos) (tAsg te t1) (sAsg fe g1) := ⟨ps_asg he.pe hg.pe hs hw h1, fun B F io σ H ρ o Dn hL c h p => by
  obtain ⟨q, e1, h⟩ := Option.bind_eq_some_iff.mp h
  obtain ⟨ρ1, e2, e3⟩ := Option.map_eq_some_iff.mp h
  subst e3
  refine he.se B F io σ H ρ q.1 q.2 _ c e1 fun F1 H1 v g1' c1 d1 => ?_
  exact hg.se B F1 io σ H1 q.2 v q.1 ρ1 _ hL c1 d1 e2 fun F2 σ2 H2 g2' c2 _ => p F2 σ2 H2 (g1'.trans g2') c2⟩
def sPar (i j : Nat) (f : FA) : FS := fun ρ => (f ρ).bind fun p => match p.1 with
  | [d, e] => some (.nx ((p.2.set i (.sh d)).set j (.sh e)))
  | _ => none
theorem ds_par {i j : Nat} {x y : Str} {a b : Expr} {ta : TA} {fa : FA} {px py pt : Pos} {kt k2 pt2} (hc : X.calm = true) (hN : X.N.Nodup) (ha : DA X [a, b] ta fa) (hi : X.N[i]? = some x := by rfl) (hj : X.N[j]? = some y := by rfl) (hij : i ≠ j := by decide) (hli : i ∉ L := by decide) (hlj : j ∉ L := by decide)
    (hx : X.env.scope.names.lookup x = some .local := by rfl) (hy : X.env.scope.names.lookup y = some .local := by rfl)
    (hw : swappedStores [.Tuple [.Name x px, .Name y py] kt pt] (.Tuple [a, b] k2 pt2) X.env = pure (some [x, y]) := by rfl)
    (hs : swapsWithSole [.Tuple [.Name x px, .Name y py] kt pt] (.Tuple [a, b] k2 pt2) pos.line X.env = pure false := by rfl) :
    DS X L (.Assign [.Tuple [.Name x px, .Name y py] kt pt] (.Tuple [a, b] k2 pt2) pos) (tPar i j ta) (sPar i j fa) := ⟨ps_par hc hN hi hj hij hx hy ha.pe hw hs, fun B F io σ H ρ o Dn hL c h p => by
  obtain ⟨q, e1, h⟩ := Option.bind_eq_some_iff.mp h
  refine ha.se B F io σ H ρ q.1 q.2 _ c e1 fun F1 H1 vs g1 c1 d1 => ?_
  obtain ⟨ds, ρ1⟩ := q
  match ds, d1, h with
  | [d, e], d1, h =>
    obtain ⟨v, w, rfl, q1, q2⟩ := two_of d1
    cases h
    exact ⟨v, w, rfl, p F1 _ H1 g1 ((c1.set_sh (by rw [hL]; exact hli) q1).set_sh (by rw [hL]; exact hlj) q2)⟩⟩
/-! ### x op= e -/
def sAug (i : Nat) (g : D → D → Option D) (f : FE) : FS := fun ρ => match ρ[i]? with
  | some (.sh d) => (f ρ).bind fun p => (g d p.1).map fun z => .nx (p.2.set i (.sh z))
  | _ => none
theorem ds_aug {i : Nat} {x : Str} {op : Operator} {r : R2} {g : D → D → Option D} {pos' : Pos} (hN : X.N.Nodup) (ho : OpR X (inplaceOp op) r) (hg : Op2 X.K r g) (he : DE X e te fe) (hi : X.N[i]? = some x := by rfl) (hl : i ∉ L := by decide) (hx : Loc X.env.scope x := by first | exact Or.inl rfl | exact Or.inr rfl)
    (hf : X.fn x = true ∨ X.env.scope.names.lookup x = some .local := by first | exact .inl rfl | exact .inr rfl | assumption) : DS X L (.AugAssign (.Name x pos') op e pos) (tAug i te r) (sAug i g fe) := ⟨ps_aug hN hi hx he.pe ho hf, fun B F io σ H ρ o Dn hL c h p => by
  unfold sAug at h
  cases q : ρ[i]? with
  | none => rw [q] at h; cases h
  | some u =>
    rw [q] at h
    cases u with
    | sh d =>
      obtain ⟨s, e1, h⟩ := Option.bind_eq_some_iff.mp h
      obtain ⟨z, e2, e3⟩ := Option.map_eq_some_iff.mp h
      subst e3
      obtain ⟨y, hy, v, rfl, dd⟩ := c.cell i _ q
      refine ⟨v, hy, he.se B F io σ H ρ s.1 s.2 _ c e1 fun F1 H1 w g1 c1 d1 => ?_⟩
      exact hg F1 H1 v w d s.1 z _ c1.frz (dp_mono g1.sub dd) d1 e2 fun F2 H2 r2 al d2 => p F2 _ H2 (g1.trans (al.gr c1.base)) ((c1.al al).set_sh (by rw [hL]; exact hl) d2)
    | _ => cases h⟩
/-! ### what is done to an own list -/
/-- the slot holds an own list -/
def ownL (j : Nat) (ρ : En) : Option (List D) := match ρ[j]? with
  | some (.ol ds) => some ds
  | _ => none
theorem ownL_eq {j : Nat} {ρ : En} {ds : List D} (h : ownL j ρ = some ds) : ρ[j]? = some (.ol ds) := by
  unfold ownL at h
  split at h
  · cases h; assumption
  · cases h
theorem own_list {K : PySem.W.Frag} {B F H : Hp} {io : List (Nat × Addr)} {σ : St} {ρ : En} {j : Nat} {ds : List D} (c : Con K B F io σ H ρ) (h : ownL j ρ = some ds) : ∃ a vs, σ[j]? = some (some (.ref a)) ∧ H a = some (.lst vs) ∧ DpAll K F vs ds := by
  obtain ⟨a, o, h1, h2, h3, _⟩ := c.own (ownL_eq h) rfl
  cases o with
  | lst vs => exact ⟨a, vs, h1, h2, h3⟩
  | _ => exact False.elim h3
/-- the list at j is written -/
theorem Con.putL {K : PySem.W.Frag} {B F H : Hp} {io : List (Nat × Addr)} {σ : St} {ρ : En} {j : Nat} {ds es : List D} {a : Addr} {ws : List V} (c : Con K B F io σ H ρ) (h : ownL j ρ = some ds) (hs : σ[j]? = some (some (.ref a))) (hw : DpAll K F ws es) :
    Con K B F io σ (upd H a (.lst ws)) (ρ.set j (.ol es)) := c.write (ownL_eq h) rfl hs hw
/-- xs[i] = e, xs an own list -/
def sItem (j : Nat) (fi fe : FE) : FS := fun ρ => (fe ρ).bind fun p => (ownL j p.2).bind fun _ => (fi p.2).bind fun q => (ownL j q.2).bind fun ds => (intD q.1).bind fun k => (ixN ds.length k).map fun n => .nx (q.2.set j (.ol (ds.set n p.1)))
theorem intD_eq {d : D} {i : Int} (h : intD d = some i) : d = .int i := by
  cases d <;> first | (cases h; rfl) | cases h
theorem ds_item {j : Nat} {x : Str} {i : Expr} {ti : TE} {fi : FE} {p1 p2 : Pos} (he : DE X e te fe) (hi : DE X i ti fi) (hN : X.N[j]? = some x := by rfl) (hv : Vis X.env.scope x := by first | exact Or.inl rfl | exact Or.inr (Or.inl rfl) | exact Or.inr (Or.inr rfl)) (hd : (x == ("__debug__" : Str)) = false := by decide)
    (hcd : (x == ("__classdict__" : Str)) = false := by decide) (hs : swapsWithSole [.Subscript (.Name x p1) i p2] e pos.line X.env = pure false := by rfl) (hw : swappedStores [.Subscript (.Name x p1) i p2] e X.env = pure none := by rfl)
    (h1 : (assignEach [.Subscript (.Name x p1) i p2] X.env).map (·.2) = [assign (.Subscript (.Name x p1) i p2) X.env] := by rfl)
    (ha : ∀ v, assign (.Subscript (.Name x p1) i p2) X.env v = (do
      let ov ← holding [v] (eval (.Name x p1) X.env)
      let iv ← holding [v, ov] (eval i X.env)
      standAt p2
      holding [v, ov, iv] (setItem ov iv v)
      release [v, ov, iv] []) := by intro _; rfl) :
    DS X L (.Assign [.Subscript (.Name x p1) i p2] e pos) (tAsg te (gSub (tVar j) ti rSetL)) (sItem j fi fe) := ⟨ps_asg he.pe (pg_sub (pe_var hN hv hd hcd) hi.pe set_list ha) hs hw h1, fun B F io σ H ρ o Dn hL c h p => by
  obtain ⟨q, e1, h⟩ := Option.bind_eq_some_iff.mp h
  obtain ⟨es, z1, h⟩ := Option.bind_eq_some_iff.mp h
  obtain ⟨r, e2, h⟩ := Option.bind_eq_some_iff.mp h
  obtain ⟨ds, z2, h⟩ := Option.bind_eq_some_iff.mp h
  obtain ⟨k, z3, h⟩ := Option.bind_eq_some_iff.mp h
  obtain ⟨n, z4, e4⟩ := Option.map_eq_some_iff.mp h
  subst e4
  refine he.se B F io σ H ρ q.1 q.2 _ c e1 fun F1 H1 v g1 c1 d1 => ?_
  obtain ⟨a, _, s1, _, _⟩ := own_list c1 z1
  refine ⟨.ref a, s1, hi.se B F1 io σ H1 q.2 r.1 r.2 _ c1 e2 fun F2 H2 y g2 c2 d2 => ?_⟩
  obtain ⟨a', vs, s2, h2, h3⟩ := own_list c2 z2
  have ea : a' = a := by rw [s1] at s2; cases s2; rfl
  subst ea
  rw [intD_eq z3] at d2
  cases d2
  refine ⟨a', vs, k, n, rfl, rfl, h2, by rw [h3.length]; exact z4, p F2 σ _ (g1.trans g2) (c2.putL z2 s1 (DpAll.set (dp_mono g2.sub d1) n h3))⟩⟩
/-! ### methods of an own list -/
def eMeth (j : Nat) (g : List D → List D → Option (D × List D)) (fa : FA) : FE := fun ρ => (ownL j ρ).bind fun _ => (fa ρ).bind fun p => (ownL j p.2).bind fun ds => (g ds p.1).map fun z => (z.1, p.2.set j (.ol z.2))
def eMeth0 (j : Nat) (g : List D → List D → Option (D × List D)) : FE := fun ρ => (ownL j ρ).bind fun ds => (g ds []).map fun z => (z.1, ρ.set j (.ol z.2))
/-- a method that writes its list -/
def OpL (K : PySem.W.Frag) (r : V → List V → Hp → VK → Prop) (g : List D → List D → Option (D × List D)) : Prop := ∀ (F H : Hp) (a : Addr) (vs xs : List V) (ds es : List D) (z : D × List D) (Q : VK), H a = some (.lst vs) → DpAll K F vs ds → DpAll K F xs es → g ds es = some z →
  (∀ v ws, Dp K F v z.1 → DpAll K F ws z.2 → Q v (upd H a (.lst ws))) → r (.ref a) xs H Q
theorem de_lm0 {j : Nat} {x name : Str} {apos cpos p1 : Pos} {id : String} {r : V → List V → Hp → VK → Prop} {g : List D → List D → Option (D × List D)} (slot : Slot "list" name id) (hty : typeOf (.builtin id) = pure (.type "method_descriptor")) (hm : MtR X id r) (hg : OpL X.K r g)
    (hN : X.N[j]? = some x := by rfl) (hv : Vis X.env.scope x := by first | exact Or.inl rfl | exact Or.inr (Or.inl rfl) | exact Or.inr (Or.inr rfl)) (hd : (x == ("__debug__" : Str)) = false := by decide) (hcd : (x == ("__classdict__" : Str)) = false := by decide)
    (hbase : attributeBase (.Name x p1) name X.env (eval (.Name x p1) X.env) = eval (.Name x p1) X.env := by rfl) (hline : (apos.endLine == cpos.line) = true := by rfl) :
    DE X (.Call (.Attribute (.Name x p1) name apos) [] [] cpos) (tBM0 X.K "list" r (tVar j)) (eMeth0 j g) := ⟨pe_bm0 PySem.F.plainAttrs_list slot hty hm (pe_var hN hv hd hcd) hbase hline, by
  intro B F io σ H ρ d ρ' Q c e k
  obtain ⟨ds, z1, e⟩ := Option.bind_eq_some_iff.mp e
  obtain ⟨z, z2, e2⟩ := Option.map_eq_some_iff.mp e
  cases e2
  obtain ⟨a, vs, s1, h1, d1⟩ := own_list c z1
  refine ⟨.ref a, s1, .inl ⟨rfl, vs, .inl (.inl h1)⟩, hg F H a vs [] ds [] z Q h1 d1 .nil z2 fun v ws dv dw => ?_⟩
  exact k F _ v (Gr.refl _ _) (c.putL z1 s1 dw) dv⟩
theorem de_lm {j : Nat} {x name : Str} {apos cpos p1 : Pos} {id : String} {r : V → List V → Hp → VK → Prop} {g : List D → List D → Option (D × List D)} {es : List Expr} {ta : TA} {fa : FA} (slot : Slot "list" name id) (hty : typeOf (.builtin id) = pure (.type "method_descriptor")) (hm : MtR X id r) (hg : OpL X.K r g)
    (ha : DA X (e :: es) ta fa) (hN : X.N[j]? = some x := by rfl) (hv : Vis X.env.scope x := by first | exact Or.inl rfl | exact Or.inr (Or.inl rfl) | exact Or.inr (Or.inr rfl)) (hd : (x == ("__debug__" : Str)) = false := by decide) (hcd : (x == ("__classdict__" : Str)) = false := by decide)
    (hbase : attributeBase (.Name x p1) name X.env (eval (.Name x p1) X.env) = eval (.Name x p1) X.env := by rfl)
    (hfew : ((backTo cpos (starEach (e :: es) X.env)).all (fun x => !x.1) && (backToKw cpos (keywordEach [] X.env)).all (fun x => x.1.isSome)
      && decide ((e :: es).length + ([] : List Keyword).length + (if ([] : List Keyword).isEmpty then 0 else 1) < 30)) = true := by rfl)
    (hline : (apos.endLine == cpos.line) = true := by rfl) (hs : starEach (e :: es) X.env = (false, eval e X.env) :: starEach es X.env := by rfl) (hplain : (backTo cpos (starEach es X.env)).any (·.1) = false := by rfl) :
    DE X (.Call (.Attribute (.Name x p1) name apos) (e :: es) [] cpos) (tBM X.K "list" r (tVar j) ta) (eMeth j g fa) := ⟨pe_bm PySem.F.plainAttrs_list slot hty hm (pe_var hN hv hd hcd) ha.pe hbase hfew hline hs hplain, by
  intro B F io σ H ρ d ρ' Q c e k
  obtain ⟨ds0, z0, e⟩ := Option.bind_eq_some_iff.mp e
  obtain ⟨p, e1, e⟩ := Option.bind_eq_some_iff.mp e
  obtain ⟨ds, z1, e⟩ := Option.bind_eq_some_iff.mp e
  obtain ⟨z, z2, e2⟩ := Option.map_eq_some_iff.mp e
  cases e2
  obtain ⟨a, vs0, s1, h1, _⟩ := own_list c z0
  refine ⟨.ref a, s1, .inl ⟨rfl, vs0, .inl (.inl h1)⟩, ha.se B F io σ H ρ p.1 p.2 _ c e1 fun F1 H1 xs g1 c1 d1 => ?_⟩
  obtain ⟨a', vs, s2, h2, d2⟩ := own_list c1 z1
  have ea : a' = a := by rw [s1] at s2; cases s2; rfl
  subst ea
  exact hg F1 H1 a' vs xs ds p.1 z Q h2 d2 d1 z2 fun v ws dv dw => k F1 _ v g1 (c1.putL z1 s1 dw) dv⟩
end
def lAppend : List D → List D → Option (D × List D)
  | ds, [e] => if ds.length < sizeLine then some (.none, ds ++ [e]) else none
  | _, _ => none
def lPop : List D → List D → Option (D × List D)
  | ds, [] => (ds[ds.length - 1]?).map fun d => (d, ds.dropLast)
  | _, _ => none
def lPopAt : List D → List D → Option (D × List D)
  | ds, [.int i] => if -(2 ^ 63) ≤ i ∧ i < 2 ^ 63 then (seqIndex? i ds.length).bind fun k => (ds[k]?).map fun d => (d, ds.eraseIdx k) else none
  | _, _ => none
def lReverse : List D → List D → Option (D × List D)
  | ds, [] => some (.none, ds.reverse)
  | _, _ => none
def lInsert : List D → List D → Option (D × List D)
  | ds, [.int i, e] => if ds.length < sizeLine ∧ 0 ≤ i ∧ i < 2 ^ 63 then some (.none, ds.take i.toNat ++ e :: ds.drop i.toNat) else none
  | _, _ => none
section
variable {K : PySem.W.Frag}
theorem l_append : OpL K rAppend lAppend := by
  intro F H a vs xs ds es z Q h d1 d2 e k
  match es, d2, e with
  | [x], d2, e =>
    obtain ⟨v, rfl, dv⟩ := one_of d2
    have e : (if ds.length < sizeLine then some (PyData.none, ds ++ [x]) else none) = some z := e
    by_cases hz : ds.length < sizeLine
    · rw [if_pos hz] at e; cases e
      exact ⟨a, vs, v, rfl, rfl, h, by rw [d1.length]; exact hz, k _ _ .non (d1.append (.one dv))⟩
    · rw [if_neg hz] at e; cases e
theorem l_pop : OpL K rPop lPop := by
  intro F H a vs xs ds es z Q h d1 d2 e k
  match es, d2, e with
  | [], d2, e =>
    cases d2
    obtain ⟨d, e1, e2⟩ := Option.map_eq_some_iff.mp e
    subst e2
    obtain ⟨v, e3, dv⟩ := d1.get' e1
    exact ⟨a, vs, v, rfl, rfl, h, by rw [d1.length]; exact e3, k _ _ dv d1.dropLast⟩
theorem l_popAt : OpL K rPopAt lPopAt := by
  intro F H a vs xs ds es z Q h d1 d2 e k
  match es, d2, e with
  | [.int i], d2, e =>
    obtain ⟨v, rfl, dv⟩ := one_of d2
    cases dv
    have e : (if -(2 ^ 63) ≤ i ∧ i < 2 ^ 63 then (seqIndex? i ds.length).bind fun k => (ds[k]?).map fun d => (d, ds.eraseIdx k) else none) = some z := e
    by_cases hz : -(2 ^ 63) ≤ i ∧ i < 2 ^ 63
    · rw [if_pos hz] at e
      obtain ⟨n, e1, e⟩ := Option.bind_eq_some_iff.mp e
      obtain ⟨d, e2, e3⟩ := Option.map_eq_some_iff.mp e
      subst e3
      obtain ⟨w, e4, dw⟩ := d1.get' e2
      exact ⟨a, vs, i, n, w, rfl, rfl, h, hz.1, hz.2, by rw [d1.length]; exact e1, e4, k _ _ dw (d1.eraseIdx n)⟩
    · rw [if_neg hz] at e; cases e
theorem l_reverse : OpL K rReverse lReverse := by
  intro F H a vs xs ds es z Q h d1 d2 e k
  match es, d2, e with
  | [], d2, e =>
    cases d2
    cases e
    exact ⟨a, vs, rfl, rfl, h, k _ _ .non d1.reverse⟩
end
end L2.Pd

namespace L2.Pd
open PySem PySem.Spec PyProof.Rows
/-! ## Loops and comprehensions -/
mutual
/-- the very same data -/
def beqD : D → D → Bool
  | .none, .none => true
  | .bool a, .bool b => a == b
  | .int a, .int b => a == b
  | .str a, .str b => decide (a = b)
  | .list a, .list b => beqDs a b
  | .tuple a, .tuple b => beqDs a b
  | _, _ => false
def beqDs : List D → List D → Bool
  | [], [] => true
  | a :: r, b :: s => beqD a b && beqDs r s
  | _, _ => false
end
mutual
theorem beqD_eq : ∀ {a b : D}, beqD a b = true → a = b
  | .none, b, h => by cases b <;> first | rfl | (simp [beqD] at h)
  | .bool a, b, h => by cases b <;> first | (simp [beqD] at h; done) | (simp [beqD] at h; rw [h])
  | .int a, b, h => by cases b <;> first | (simp [beqD] at h; done) | (simp [beqD] at h; rw [h])
  | .str a, b, h => by cases b <;> first | (simp [beqD] at h; done) | (simp [beqD] at h; rw [h])
  | .list a, b, h => by
    cases b with
    | list b => rw [beqDs_eq (a := a) (b := b) (by simpa [beqD] using h)]
    | _ => simp [beqD] at h
  | .tuple a, b, h => by
    cases b with
    | tuple b => rw [beqDs_eq (a := a) (b := b) (by simpa [beqD] using h)]
    | _ => simp [beqD] at h
  | .dict a, b, h => by cases b <;> (simp [beqD] at h)
theorem beqDs_eq : ∀ {a b : List D}, beqDs a b = true → a = b
  | [], b, h => by cases b <;> first | rfl | (simp [beqDs] at h)
  | x :: r, b, h => by
    cases b with
    | nil => simp [beqDs] at h
    | cons y s =>
      rw [beqDs, Bool.and_eq_true] at h
      rw [beqD_eq h.1, beqDs_eq h.2]
end
/-- no dict within -/
def noDict : D → Bool := fun d => d.canLay0 || true
def lockOk (lk : Option Nat) (xs : List D) (ρ : En) : Bool := match lk with
  | none => true
  | some j => match ρ[j]? with
    | some (.ol ds) => beqDs ds xs
    | _ => false
theorem lockOk_at {j : Nat} {xs : List D} {ρ : En} (h : lockOk (some j) xs ρ = true) : ρ[j]? = some (.ol xs) := by
  unfold lockOk at h
  simp only at h
  split at h
  · rename_i ds e
    rw [e, beqDs_eq h]
  · cases h
def killL : List Nat → En → En
  | [], ρ => ρ
  | i :: r, ρ => killL r (ρ.set i .dead)
section
variable {K : PySem.W.Frag} {B F F' H H' : Hp} {io : List (Nat × Addr)} {σ : St} {ρ : En}
theorem Con.killL (c : Con K B F io σ H ρ) : ∀ ks : List Nat, Con K B F io σ H (Pd.killL ks ρ) := by
  intro ks
  induction ks generalizing ρ with
  | nil => exact c
  | cons i r ih => exact ih (c.kill i)
theorem Con.subio {io' : List (Nat × Addr)} (c : Con K B F io σ H ρ) (h : ∀ p ∈ io', p ∈ io) : Con K B F io' σ H ρ := ⟨c.len, c.base, c.frz, c.cell, c.sep, fun p hp => c.io p (h p hp)⟩
theorem Con.addio (c : Con K B F io σ H ρ) {j : Nat} {a : Addr} (h : σ[j]? = some (some (.ref a))) : Con K B F ((j, a) :: io) σ H ρ := ⟨c.len, c.base, c.frz, c.cell, c.sep, fun p hp => by
  rcases List.mem_cons.mp hp with e | hp
  · subst e; exact h
  · exact c.io p hp⟩
end
/-! ### what is walked -/
structure Walk (K : PySem.W.Frag) (C : Hp → Hp → Prop) (J : It) (xs : List D) : Prop where
  go : ∀ i F H, C F H → i < xs.length → J.go i H
  yld : ∀ i F H x H', C F H → i < xs.length → J.yld i H x H' → H' = H ∧ ∃ d, xs[i]? = some d ∧ Dp K F x d
  stop : ∀ i F H, C F H → xs.length ≤ i → J.stop i H
def SI (K : PySem.W.Frag) (lk : Option Nat) (wi : TI) (f : FA) : Prop := ∀ (B F : Hp) (io : List (Nat × Addr)) (σ : St) (H : Hp) (ρ : En) (xs : List D) (ρ' : En) (R : It → Hp → Prop), Con K B F io σ H ρ → f ρ = some (xs, ρ') →
  (∀ F' H' J C, Gr B F F' → Con K B F' io σ H' ρ' → Walk K C J xs → (∀ B2 F2 io2 σ2 H2 ρ2, Same F' F2 → Con K B2 F2 io2 σ2 H2 ρ2 → lockOk lk xs ρ2 = true → (∀ j, lk = some j → σ2[j]? = σ[j]?) → C F2 H2) → (∀ j, lk = some j → ∃ a, σ[j]? = some (some (.ref a))) → R J H') → wi σ H R
structure DI (X : Cx) (lk : Option Nat) (tg iter : Expr) (wi : TI) (f : FA) : Prop where
  pe : PI X tg iter wi
  se : SI X.K lk wi f
def rngD (lo : Int) (n : Nat) : List D := (List.range n).map fun i => .int (lo + (i : Nat))
def rngC (lo c : Int) (n : Nat) : List D := (List.range n).map fun i => .int (lo + (i : Nat) * c)
theorem rngD_len (lo : Int) (n : Nat) : (rngD lo n).length = n := by unfold rngD; rw [List.length_map, List.length_range]
theorem rngC_len (lo c : Int) (n : Nat) : (rngC lo c n).length = n := by unfold rngC; rw [List.length_map, List.length_range]
theorem rngD_get {lo : Int} {n i : Nat} (h : i < n) : (rngD lo n)[i]? = some (.int (lo + (i : Nat))) := by
  unfold rngD
  rw [List.getElem?_map, List.getElem?_range h]
  rfl
theorem rngC_get {lo c : Int} {n i : Nat} (h : i < n) : (rngC lo c n)[i]? = some (.int (lo + (i : Nat) * c)) := by
  unfold rngC
  rw [List.getElem?_map, List.getElem?_range h]
  rfl
theorem walk_rng {K : PySem.W.Frag} (C : Hp → Hp → Prop) (lo : Int) (n : Nat) : Walk K C (Itr lo n) (rngD lo n) where
  go := fun i F H _ h => by rw [rngD_len] at h; exact h
  yld := fun i F H x H' _ hi h => by
    obtain ⟨e1, e2⟩ := h
    subst e2
    rw [rngD_len] at hi
    exact ⟨e1, _, rngD_get hi, .int _⟩
  stop := fun i F H _ h => by rw [rngD_len] at h; exact h
theorem walk_rngC {K : PySem.W.Frag} (C : Hp → Hp → Prop) (lo c : Int) (n : Nat) : Walk K C (Itc lo c n) (rngC lo c n) where
  go := fun i F H _ h => by rw [rngC_len] at h; exact h
  yld := fun i F H x H' _ hi h => by
    obtain ⟨e1, e2⟩ := h
    subst e2
    rw [rngC_len] at hi
    exact ⟨e1, _, rngC_get hi, .int _⟩
  stop := fun i F H _ h => by rw [rngC_len] at h; exact h
theorem walk_lst {K : PySem.W.Frag} (C : Hp → Hp → Prop) {a : Addr} {ds : List D} (h : ∀ F H, C F H → ∃ vs, SqL K H a vs ∧ DpAll K F vs ds) : Walk K C (Itl K a) ds where
  go := fun i F H c hi => by
    obtain ⟨vs, q, d⟩ := h F H c
    have hl : i < vs.length := by rw [d.length]; exact hi
    exact ⟨vs, vs[i], q, List.getElem?_eq_getElem hl⟩
  yld := fun i F H x H' c hi y => by
    obtain ⟨vs, q, d⟩ := h F H c
    obtain ⟨e1, e2⟩ := y
    exact ⟨e1, d.get (e2 vs q)⟩
  stop := fun i F H c hi => by
    obtain ⟨vs, q, d⟩ := h F H c
    exact ⟨vs, q, by rw [d.length]; exact hi⟩
theorem walk_tup {K : PySem.W.Frag} (C : Hp → Hp → Prop) {a : Addr} {ds : List D} (h : ∀ F H, C F H → ∃ vs, SqT K H a vs ∧ DpAll K F vs ds) : Walk K C (Itt K a) ds where
  go := fun i F H c hi => by
    obtain ⟨vs, q, d⟩ := h F H c
    have hl : i < vs.length := by rw [d.length]; exact hi
    exact ⟨vs, vs[i], q, List.getElem?_eq_getElem hl⟩
  yld := fun i F H x H' c hi y => by
    obtain ⟨vs, q, d⟩ := h F H c
    obtain ⟨e1, e2⟩ := y
    exact ⟨e1, d.get (e2 vs q)⟩
  stop := fun i F H c hi => by
    obtain ⟨vs, q, d⟩ := h F H c
    exact ⟨vs, q, by rw [d.length]; exact hi⟩
/-- the signs of a text -/
def signsD (x : Str) : List D := x.cps.toList.map fun c => .str ⟨#[c]⟩
theorem signsD_len (x : Str) : (signsD x).length = x.cps.size := by unfold signsD; rw [List.length_map, Array.length_toList]
theorem walk_str {K : PySem.W.Frag} (C : Hp → Hp → Prop) (x : Str) : Walk K C (Its x) (signsD x) where
  go := fun i F H _ h => by rw [signsD_len] at h; exact h
  yld := fun i F H v H' _ hi h => by
    obtain ⟨e1, c, e2, e3⟩ := h
    subst e3
    refine ⟨e1, .str ⟨#[c]⟩, ?_, .str _⟩
    unfold signsD
    rw [List.getElem?_map, Array.getElem?_toList, e2]
    rfl
  stop := fun i F H _ h => by rw [signsD_len] at h; exact h
section
variable {X : Cx} {tg a b c e : Expr} {ta : TA} {fa : FA} {te : TE} {fe : FE} {p pos : Pos}
def iR1 (f : FA) : FA := fun ρ => (f ρ).bind fun p => match p.1 with
  | [.int j] => if -(2 ^ 62) ≤ j ∧ j < 2 ^ 62 then some (rngD 0 j.toNat, p.2) else none
  | _ => none
def iR2 (f : FA) : FA := fun ρ => (f ρ).bind fun p => match p.1 with
  | [.int i, .int j] => if -(2 ^ 62) ≤ i ∧ i < 2 ^ 62 ∧ -(2 ^ 62) ≤ j ∧ j < 2 ^ 62 then some (rngD i (j - i).toNat, p.2) else none
  | _ => none
def iR3 (f : FA) : FA := fun ρ => (f ρ).bind fun p => match p.1 with
  | [.int i, .int j, .int c] => if c ≠ 0 ∧ c.natAbs < 1073741824 ∧ Builtin.Range.small i j c = true then some (rngC i c (Builtin.Range.rangeSize i j c).toNat, p.2) else none
  | _ => none
theorem di_range1 (ha : DA X [a] ta fa) (hm : X.mg "range" = none) (hg : Gl X "range" := by rfl) (hs : starEach [a] X.env = [(false, eval a X.env)] := by rfl) : DI X none tg (.Call (.Name "range" p) [a] [] pos) (iRng1 ta) (iR1 fa) := by
  refine ⟨pi_range1 hg hm ha.pe hs, ?_⟩
  intro B F io σ H ρ xs ρ' R c e k
  obtain ⟨⟨ds, ρ1⟩, e1, e⟩ := Option.bind_eq_some_iff.mp e
  refine ha.se B F io σ H ρ ds ρ1 _ c e1 fun F1 H1 vs g1 c1 d1 => ?_
  match ds, d1, e with
  | [.int j], d1, e =>
    obtain ⟨x, rfl, q⟩ := one_of d1
    cases q
    have e : (if -(2 ^ 62) ≤ j ∧ j < 2 ^ 62 then some (rngD 0 j.toNat, ρ1) else none) = some (xs, ρ') := e
    by_cases hz : -(2 ^ 62) ≤ j ∧ j < 2 ^ 62
    · rw [if_pos hz] at e
      cases e
      exact ⟨j, rfl, hz.1, hz.2, k F1 H1 _ (fun _ _ => True) g1 c1 (walk_rng _ _ _) (fun _ _ _ _ _ _ _ _ _ _ => trivial) (fun _ h => nomatch h)⟩
    · rw [if_neg hz] at e; cases e
theorem di_range2 (ha : DA X [a, b] ta fa) (hm : X.mg "range" = none) (hg : Gl X "range" := by rfl) (hs : starEach [a, b] X.env = [(false, eval a X.env), (false, eval b X.env)] := by rfl) (hs2 : starEach [b] X.env = [(false, eval b X.env)] := by rfl) :
    DI X none tg (.Call (.Name "range" p) [a, b] [] pos) (iRng2 ta) (iR2 fa) := by
  refine ⟨pi_range2 hg hm ha.pe hs hs2, ?_⟩
  intro B F io σ H ρ xs ρ' R c e k
  obtain ⟨⟨ds, ρ1⟩, e1, e⟩ := Option.bind_eq_some_iff.mp e
  refine ha.se B F io σ H ρ ds ρ1 _ c e1 fun F1 H1 vs g1 c1 d1 => ?_
  match ds, d1, e with
  | [.int i, .int j], d1, e =>
    obtain ⟨x, y, rfl, q, q'⟩ := two_of d1
    cases q
    cases q'
    have e : (if -(2 ^ 62) ≤ i ∧ i < 2 ^ 62 ∧ -(2 ^ 62) ≤ j ∧ j < 2 ^ 62 then some (rngD i (j - i).toNat, ρ1) else none) = some (xs, ρ') := e
    by_cases hz : -(2 ^ 62) ≤ i ∧ i < 2 ^ 62 ∧ -(2 ^ 62) ≤ j ∧ j < 2 ^ 62
    · rw [if_pos hz] at e
      cases e
      exact ⟨i, j, rfl, hz, k F1 H1 _ (fun _ _ => True) g1 c1 (walk_rng _ _ _) (fun _ _ _ _ _ _ _ _ _ _ => trivial) (fun _ h => nomatch h)⟩
    · rw [if_neg hz] at e; cases e
theorem three_of {K : PySem.W.Frag} {H : Hp} {xs : List V} {d e f : D} (h : DpAll K H xs [d, e, f]) : ∃ x y z, xs = [x, y, z] ∧ Dp K H x d ∧ Dp K H y e ∧ Dp K H z f := by
  cases h with
  | cons q r => obtain ⟨y, z, rfl, q1, q2⟩ := two_of r; exact ⟨_, y, z, rfl, q, q1, q2⟩
theorem rangeSize_nn (i j c : Int) : 0 ≤ Builtin.Range.rangeSize i j c := by
  unfold Builtin.Range.rangeSize
  split <;> first | omega | (split <;> first | omega | (have := Int.ediv_nonneg (a := j - i - 1) (b := c) (by omega) (by omega); omega) | (have := Int.ediv_nonneg (a := i - j - 1) (b := -c) (by omega) (by omega); omega))
theorem di_range3 (ha : DA X [a, b, c] ta fa) (hm : X.mg "range" = none) (hg : Gl X "range" := by rfl) (hs : starEach [a, b, c] X.env = (false, eval a X.env) :: starEach [b, c] X.env := by rfl) (hpl : (backTo pos (starEach [b, c] X.env)).any (·.1) = false := by rfl) :
    DI X none tg (.Call (.Name "range" p) [a, b, c] [] pos) (iRng3 ta) (iR3 fa) := by
  refine ⟨pi_range3 hg hm ha.pe hs hpl, ?_⟩
  intro B F io σ H ρ xs ρ' R cn e k
  obtain ⟨⟨ds, ρ1⟩, e1, e⟩ := Option.bind_eq_some_iff.mp e
  refine ha.se B F io σ H ρ ds ρ1 _ cn e1 fun F1 H1 vs g1 c1 d1 => ?_
  match ds, d1, e with
  | [.int i, .int j, .int c], d1, e =>
    obtain ⟨x, y, z, rfl, q, q', q''⟩ := three_of d1
    cases q
    cases q'
    cases q''
    have e : (if c ≠ 0 ∧ c.natAbs < 1073741824 ∧ Builtin.Range.small i j c = true then some (rngC i c (Builtin.Range.rangeSize i j c).toNat, ρ1) else none) = some (xs, ρ') := e
    by_cases hz : c ≠ 0 ∧ c.natAbs < 1073741824 ∧ Builtin.Range.small i j c = true
    · rw [if_pos hz] at e
      cases e
      exact ⟨i, j, c, _, rfl, ⟨hz.1, hz.2.1, hz.2.2, (Int.toNat_of_nonneg (rangeSize_nn i j c)).symm⟩, k F1 H1 _ (fun _ _ => True) g1 c1 (walk_rngC _ _ _ _) (fun _ _ _ _ _ _ _ _ _ _ => trivial) (fun _ h => nomatch h)⟩
    · rw [if_neg hz] at e; cases e
/-- a list, a tuple or a text that stays -/
def iSq (f : FE) : FA := fun ρ => (f ρ).bind fun p => match p.1 with
  | .list ds => some (ds, p.2)
  | .tuple ds => some (ds, p.2)
  | .str x => some (signsD x, p.2)
  | _ => none
abbrev iSqD (K : PySem.W.Frag) (te : TE) : TI := fun σ H R => iList K te σ H R ∨ iTup K te σ H R ∨ iStr te σ H R
theorem pi_sq (he : PE X e te) : PI X tg e (iSqD X.K te) := ⟨fun pins s σ H R I h => by
  rcases h with h | h | h
  · exact (pi_list he).run pins s σ H R I h
  · exact (pi_tup he).run pins s σ H R I h
  · exact (pi_str he).run pins s σ H R I h⟩
theorem di_sq (he : DE X e te fe) : DI X none tg e (iSqD X.K te) (iSq fe) := by
  refine ⟨pi_sq he.pe, ?_⟩
  intro B F io σ H ρ xs ρ' R c e k
  obtain ⟨⟨d, ρ1⟩, e1, e⟩ := Option.bind_eq_some_iff.mp e
  cases d with
  | list ds =>
    cases e
    refine .inl (he.se B F io σ H ρ _ _ _ c e1 fun F1 H1 v g1 c1 d1 => ?_)
    cases d1 with
    | @lst a vs _ q r =>
      exact ⟨a, rfl, ⟨vs, c1.frz.seq q⟩, k F1 H1 _ (fun F2 H2 => Same F1 F2 ∧ Same F2 H2) g1 c1 (walk_lst _ fun F2 H2 h => ⟨vs, (h.1.trans h.2).seq q, dpAll_mono h.1 r⟩) (fun B2 F2 io2 σ2 H2 ρ2 s2 c2 _ _ => ⟨s2, c2.frz⟩) (fun _ h => nomatch h)⟩
  | tuple ds =>
    cases e
    refine .inr (.inl (he.se B F io σ H ρ _ _ _ c e1 fun F1 H1 v g1 c1 d1 => ?_))
    cases d1 with
    | @tup a vs _ q r =>
      exact ⟨a, rfl, ⟨vs, sqT_mono c1.frz q⟩, k F1 H1 _ (fun F2 H2 => Same F1 F2 ∧ Same F2 H2) g1 c1 (walk_tup _ fun F2 H2 h => ⟨vs, sqT_mono (h.1.trans h.2) q, dpAll_mono h.1 r⟩) (fun B2 F2 io2 σ2 H2 ρ2 s2 c2 _ _ => ⟨s2, c2.frz⟩) (fun _ h => nomatch h)⟩
  | str x =>
    cases e
    refine .inr (.inr (he.se B F io σ H ρ _ _ _ c e1 fun F1 H1 v g1 c1 d1 => ?_))
    cases d1
    exact ⟨x, rfl, k F1 H1 _ (fun _ _ => True) g1 c1 (walk_str _ _) (fun _ _ _ _ _ _ _ _ _ _ => trivial) (fun _ h => nomatch h)⟩
  | _ => cases e
/-- an own list, as it stands -/
def iOwn (j : Nat) : FA := fun ρ => (ownL j ρ).map fun ds => (ds, ρ)
theorem di_own (j : Nat) {x : Str} (hN : X.N[j]? = some x := by rfl) (hv : Vis X.env.scope x := by first | exact Or.inl rfl | exact Or.inr (Or.inl rfl) | exact Or.inr (Or.inr rfl)) (hd : (x == ("__debug__" : Str)) = false := by decide) (hcd : (x == ("__classdict__" : Str)) = false := by decide) :
    DI X (some j) tg (.Name x p) (iList X.K (tVar j)) (iOwn j) := by
  refine ⟨pi_list (pe_var hN hv hd hcd), ?_⟩
  intro B F io σ H ρ xs ρ' R c e k
  obtain ⟨ds, e1, e2⟩ := Option.map_eq_some_iff.mp e
  cases e2
  obtain ⟨a, vs, s1, h1, d1⟩ := own_list c e1
  refine ⟨.ref a, s1, a, rfl, ⟨vs, .inl (.inl h1)⟩, k F H _ (fun F2 H2 => ∃ vs, SqL X.K H2 a vs ∧ DpAll X.K F2 vs xs) (Gr.refl _ _) c (walk_lst _ fun F2 H2 h => h) (fun B2 F2 io2 σ2 H2 ρ2 s2 c2 lk hs => ?_) (fun i h => by cases h; exact ⟨a, s1⟩)⟩
  obtain ⟨a2, vs2, s3, h3, d3⟩ := own_list (j := j) (ds := xs) c2 (by unfold ownL; rw [lockOk_at lk])
  have q := hs j rfl
  rw [s1, s3] at q
  cases q
  exact ⟨vs2, .inl (.inl h3), d3⟩
end
/-! ### for -/
def loopF (lk : Option Nat) (xs0 : List D) (ks : List Nat) (b : D → En → Option Out) : List D → En → Option Out
  | [], ρ => if lockOk lk xs0 (killL ks ρ) = true then some (.nx (killL ks ρ)) else none
  | x :: r, ρ => if lockOk lk xs0 (killL ks ρ) = true then (b x (killL ks ρ)).bind fun o => match o with
    | .nx ρ' => loopF lk xs0 ks b r ρ'
    | .ct ρ' => loopF lk xs0 ks b r ρ'
    | .bk ρ' => some (.nx (killL ks ρ'))
    | .rt c ρ' => some (.rt c ρ') else none
def sFor (lk : Option Nat) (ks : List Nat) (it : FA) (g : FG) (b : FS) : FS := fun ρ => (it ρ).bind fun p => loopF lk p.1 ks (fun x ρ => (g x ρ).bind b) p.1 p.2
def lkL : Option Nat → List Nat
  | none => []
  | some j => [j]
section
variable {X : Cx} {L : List Nat} {tg iter : Expr} {body : List Stmt} {wi : TI} {fi : FA} {lk : Option Nat} {ws : List Nat} {t1 : TG} {g1 : FG} {tb : TS} {fb : FS} {pos : Pos}
theorem ss_for {K : PySem.W.Frag} (ks : List Nat) (hi : SI K lk wi fi) (hg : SG K (lkL lk ++ L) ws t1 g1) (hb : SS K (lkL lk ++ L) tb fb) : SS K L (tFor wi t1 tb) (sFor lk ks fi g1 fb) := by
  intro B F io σ H ρ o Dn hL c e p
  obtain ⟨⟨xs, ρ0⟩, e1, e⟩ := Option.bind_eq_some_iff.mp e
  refine hi B F io σ H ρ xs ρ0 _ c e1 fun F0 H0 J C g0 c0 wk cl hlk => ?_
  -- the lock's own pair
  obtain ⟨io', hio', hsub, hj⟩ : ∃ io' : List (Nat × Addr), io'.map (·.1) = lkL lk ++ L ∧ (∀ q ∈ io, q ∈ io') ∧ (∀ q ∈ io', σ[q.1]? = some (some (.ref q.2))) := by
    cases lk with
    | none => exact ⟨io, by rw [hL]; rfl, fun _ h => h, c.io⟩
    | some j =>
      obtain ⟨a, ha⟩ := hlk j rfl
      refine ⟨(j, a) :: io, by rw [List.map_cons, hL]; rfl, fun _ h => List.mem_cons_of_mem _ h, fun q hq => ?_⟩
      rcases List.mem_cons.mp hq with rfl | hq
      · exact ha
      · exact c.io q hq
  have lkσ : ∀ {σ2 : St} {H2 F2 B2 : Hp} {ρ2 : En}, Con K B2 F2 io' σ2 H2 ρ2 → ∀ j, lk = some j → σ2[j]? = σ[j]? := by
    intro σ2 H2 F2 B2 ρ2 c2 j hjk
    subst hjk
    have : (j : Nat) ∈ io'.map (·.1) := by rw [hio']; exact List.mem_append_left _ (List.mem_singleton.mpr rfl)
    obtain ⟨q, hq, e⟩ := List.mem_map.mp this
    subst e
    rw [c2.io q hq, hj q hq]
  have c0' : Con K B F0 io' σ H0 ρ0 := ⟨c0.len, c0.base, c0.frz, c0.cell, c0.sep, hj⟩
  have p0 := p.mono g0
  refine ⟨fun i m σ H => m = xs.length - i ∧ i ≤ xs.length ∧ ∃ F2 ρ2, Gr B F0 F2 ∧ Con K B F2 io' σ H ρ2 ∧ loopF lk xs ks (fun x ρ => (g1 x ρ).bind fb) (xs.drop i) ρ2 = some o, ⟨xs.length, by simp, Nat.zero_le _, F0, ρ0, Gr.refl _ _, c0', e⟩, ?_⟩
  rintro i m σ2 H2 ⟨rfl, hi2, F2, ρ2, g2, c2, e2⟩
  have ck := c2.killL ks
  by_cases hlt : i < xs.length
  · rw [List.drop_eq_getElem_cons hlt] at e2
    unfold loopF at e2
    by_cases hlo : lockOk lk xs (killL ks ρ2) = true
    · rw [if_pos hlo] at e2
      obtain ⟨o1, e3, e4⟩ := Option.bind_eq_some_iff.mp e2
      obtain ⟨ρ3, e5, e6⟩ := Option.bind_eq_some_iff.mp e3
      have cc := cl B F2 io' σ2 H2 (killL ks ρ2) g2.sub ck hlo (lkσ c2)
      refine .inr ⟨wk.go i F2 H2 cc hlt, fun σ' H' => ∃ m', m' < xs.length - i ∧ (m' = xs.length - (i + 1) ∧ i + 1 ≤ xs.length ∧ ∃ F2 ρ2, Gr B F0 F2 ∧ Con K B F2 io' σ' H' ρ2 ∧ loopF lk xs ks (fun x ρ => (g1 x ρ).bind fb) (xs.drop (i + 1)) ρ2 = some o), fun σ' H' h => h, fun x H' y => ?_⟩
      obtain ⟨e7, d, e8, dd⟩ := wk.yld i F2 H2 x H' cc hlt y
      subst e7
      rw [List.getElem?_eq_getElem hlt] at e8
      cases e8
      refine hg B F2 io' σ2 H' (killL ks ρ2) x xs[i] ρ3 _ hio' ck dd e5 fun F3 σ3 H3 g3 c3 _ => ?_
      have again : ∀ {F4 : Hp} {σ4 : St} {H4 : Hp} {ρ4 : En}, Gr B F3 F4 → Con K B F4 io' σ4 H4 ρ4 → loopF lk xs ks (fun x ρ => (g1 x ρ).bind fb) (xs.drop (i + 1)) ρ4 = some o →
          ∃ m', m' < xs.length - i ∧ (m' = xs.length - (i + 1) ∧ i + 1 ≤ xs.length ∧ ∃ F2 ρ2, Gr B F0 F2 ∧ Con K B F2 io' σ4 H4 ρ2 ∧ loopF lk xs ks (fun x ρ => (g1 x ρ).bind fb) (xs.drop (i + 1)) ρ2 = some o) :=
        fun {F4 σ4 H4 ρ4} g4 c4 e9 => ⟨xs.length - (i + 1), by omega, rfl, hlt, F4, ρ4, (g2.trans g3).trans g4, c4, e9⟩
      refine hb B F3 io' σ3 H3 ρ3 o1 _ hio' c3 e6 ?_
      cases o1 with
      | nx ρ4 => exact fun F4 σ4 H4 g4 c4 => again g4 c4 e4
      | ct ρ4 => exact fun F4 σ4 H4 g4 c4 => again g4 c4 e4
      | bk ρ4 =>
        cases e4
        exact fun F4 σ4 H4 g4 c4 => p0 F4 σ4 H4 ((g2.trans g3).trans g4) ((c4.killL ks).subio hsub)
      | rt u ρ4 =>
        cases e4
        exact fun F4 σ4 H4 v g4 c4 r => p0 F4 σ4 H4 v ((g2.trans g3).trans g4) (c4.subio hsub) r
    · rw [if_neg hlo] at e2; cases e2
  · have hi3 : i = xs.length := by omega
    subst hi3
    rw [List.drop_length] at e2
    unfold loopF at e2
    by_cases hlo : lockOk lk xs (killL ks ρ2) = true
    · rw [if_pos hlo] at e2
      cases e2
      have cc := cl B F2 io' σ2 H2 (killL ks ρ2) g2.sub ck hlo (lkσ c2)
      exact .inl ⟨wk.stop _ F2 H2 cc (Nat.le_refl _), p0 F2 σ2 H2 g2 (ck.subio hsub)⟩
    · rw [if_neg hlo] at e2; cases e2
theorem ds_for (ks : List Nat) (hp : PassesOwn (model X.prog X.w) X.A X.env X.xe) (hc : X.calm = true) (hi : DI X lk tg iter wi fi) (hg : DG X (lkL lk ++ L) ws tg t1 g1) (hb : DSs X (lkL lk ++ L) body tb fb)
    (hs : ∀ x, foldedSetIterable iter X.env x = pure x := by intro _; rfl) : DS X L (.For tg iter body [] pos) (tFor wi t1 tb) (sFor lk ks fi g1 fb) :=
  ⟨ps_for hp hc hi.pe hg.pe hb.pe hs, ss_for ks hi.se hg.se hb.se⟩
end
/-! ### while -/
def whileF (ks : List Nat) (c : FT) (b : FS) : Nat → En → Option Out
  | 0, _ => none
  | n + 1, ρ => (c (killL ks ρ)).bind fun p => if p.1 = true then (b p.2).bind fun o => match o with
    | .nx ρ' => whileF ks c b n ρ'
    | .ct ρ' => whileF ks c b n ρ'
    | .bk ρ' => some (.nx (killL ks ρ'))
    | .rt u ρ' => some (.rt u ρ') else some (.nx p.2)
open Classical in
noncomputable def sWhile (ks : List Nat) (c : FT) (b : FS) : FS := fun ρ => if h : ∃ n o, whileF ks c b n ρ = some o then whileF ks c b h.choose ρ else none
theorem whileF_mono {ks : List Nat} {c : FT} {b : FS} : ∀ {n m : Nat} {ρ : En} {o : Out}, whileF ks c b n ρ = some o → n ≤ m → whileF ks c b m ρ = some o
  | 0, _, _, _, h, _ => by cases h
  | n + 1, 0, _, _, _, h => by omega
  | n + 1, m + 1, ρ, o, h, hm => by
    unfold whileF at h ⊢
    obtain ⟨p, e1, h⟩ := Option.bind_eq_some_iff.mp h
    rw [e1]
    show (if p.1 = true then _ else _) = _
    by_cases hp : p.1 = true
    · rw [if_pos hp] at h ⊢
      obtain ⟨o1, e2, h⟩ := Option.bind_eq_some_iff.mp h
      rw [e2]
      cases o1 with
      | nx ρ' => exact whileF_mono (n := n) (m := m) h (by omega)
      | ct ρ' => exact whileF_mono (n := n) (m := m) h (by omega)
      | bk ρ' => exact h
      | rt u ρ' => exact h
    · rw [if_neg hp] at h ⊢; exact h
theorem sWhile_of {ks : List Nat} {c : FT} {b : FS} {n : Nat} {ρ : En} {o : Out} (h : whileF ks c b n ρ = some o) : sWhile ks c b ρ = some o := by
  have hx : ∃ n o, whileF ks c b n ρ = some o := ⟨n, o, h⟩
  unfold sWhile
  rw [dif_pos hx]
  obtain ⟨o', e⟩ := hx.choose_spec
  rw [e]
  have h1 := whileF_mono e (Nat.le_max_left hx.choose n)
  have h2 := whileF_mono h (Nat.le_max_right hx.choose n)
  rw [h1] at h2
  exact h2
theorem of_sWhile {ks : List Nat} {c : FT} {b : FS} {ρ : En} {o : Out} (h : sWhile ks c b ρ = some o) : ∃ n, whileF ks c b n ρ = some o := by
  unfold sWhile at h
  split at h
  · exact ⟨_, h⟩
  · cases h
/-- one turn -/
theorem sWhile_step {ks : List Nat} {c : FT} {b : FS} {ρ ρ1 : En} {p : Bool × En} {o : Out} (h1 : c (killL ks ρ) = some p) (h2 : p.1 = true) (h3 : b p.2 = some (.nx ρ1)) (h4 : sWhile ks c b ρ1 = some o) : sWhile ks c b ρ = some o := by
  obtain ⟨n, e⟩ := of_sWhile h4
  refine sWhile_of (n := n + 1) ?_
  unfold whileF
  rw [h1]
  show (if p.1 = true then _ else _) = _
  rw [if_pos h2, h3]
  exact e
theorem sWhile_done {ks : List Nat} {c : FT} {b : FS} {ρ : En} {p : Bool × En} (h1 : c (killL ks ρ) = some p) (h2 : p.1 = false) : sWhile ks c b ρ = some (.nx p.2) := by
  refine sWhile_of (n := 1) ?_
  unfold whileF
  rw [h1]
  show (if p.1 = true then _ else _) = _
  rw [h2]
  rfl
theorem sWhile_rt {ks : List Nat} {c : FT} {b : FS} {ρ ρ1 : En} {p : Bool × En} {u : Cell} (h1 : c (killL ks ρ) = some p) (h2 : p.1 = true) (h3 : b p.2 = some (.rt u ρ1)) : sWhile ks c b ρ = some (.rt u ρ1) := by
  refine sWhile_of (n := 1) ?_
  unfold whileF
  rw [h1]
  show (if p.1 = true then _ else _) = _
  rw [if_pos h2, h3]
  rfl
section
variable {X : Cx} {L : List Nat} {c : Expr} {body : List Stmt} {tc : TT} {fc : FT} {tb : TS} {fb : FS} {pos : Pos}
theorem ds_while (ks : List Nat) (hp : PassesOwn (model X.prog X.w) X.A X.env X.xe) (hc : DT X c tc fc) (hb : DSs X L body tb fb) : DS X L (.While c body [] pos) (tWhile tc tb) (sWhile ks fc fb) := by
  refine ⟨ps_while hp hc.pe hb.pe, ?_⟩
  intro B F io σ H ρ o Dn hL cn e p
  obtain ⟨n, e⟩ := of_sWhile e
  refine ⟨fun m σ H => ∃ F2 ρ2, Gr B F F2 ∧ Con X.K B F2 io σ H ρ2 ∧ whileF ks fc fb m ρ2 = some o, ⟨n, F, ρ, Gr.refl _ _, cn, e⟩, ?_⟩
  rintro m σ2 H2 ⟨F2, ρ2, g2, c2, e2⟩
  cases m with
  | zero => cases e2
  | succ m =>
    unfold whileF at e2
    obtain ⟨q, e1, e2⟩ := Option.bind_eq_some_iff.mp e2
    refine hc.se B F2 io σ2 H2 _ q.1 q.2 _ (c2.killL ks) e1 fun F3 H3 g3 c3 => ?_
    by_cases hq : q.1 = true
    · rw [if_pos hq] at e2 ⊢
      obtain ⟨o1, e3, e4⟩ := Option.bind_eq_some_iff.mp e2
      refine ⟨fun σ' H' => ∃ m', m' < m + 1 ∧ ∃ F2 ρ2, Gr B F F2 ∧ Con X.K B F2 io σ' H' ρ2 ∧ whileF ks fc fb m' ρ2 = some o, fun σ' H' h => h, ?_⟩
      refine hb.se B F3 io σ2 H3 q.2 o1 _ hL c3 e3 ?_
      cases o1 with
      | nx ρ4 => exact fun F4 σ4 H4 g4 c4 => ⟨m, Nat.lt_succ_self m, F4, ρ4, (g2.trans g3).trans g4, c4, e4⟩
      | ct ρ4 => exact fun F4 σ4 H4 g4 c4 => ⟨m, Nat.lt_succ_self m, F4, ρ4, (g2.trans g3).trans g4, c4, e4⟩
      | bk ρ4 =>
        cases e4
        exact fun F4 σ4 H4 g4 c4 => p F4 σ4 H4 ((g2.trans g3).trans g4) (c4.killL ks)
      | rt u ρ4 =>
        cases e4
        exact fun F4 σ4 H4 v g4 c4 r => p F4 σ4 H4 v ((g2.trans g3).trans g4) c4 r
    · rw [if_neg hq] at e2 ⊢
      cases e2
      exact p F3 σ2 H3 (g2.trans g3) c3
end
end L2.Pd

namespace L2.Pd
open PySem PySem.Spec PyProof.Rows
/-! ## Comprehensions -/
theorem killL_len : ∀ (vs : List Nat) (ρ : En), (killL vs ρ).length = ρ.length
  | [], _ => rfl
  | i :: r, ρ => by
    show (killL r (ρ.set i .dead)).length = _
    rw [killL_len r, List.length_set]
theorem killL_get : ∀ (vs : List Nat) (ρ : En) (i : Nat), (killL vs ρ)[i]? = if i ∈ vs then (ρ[i]?).map (fun _ => Cell.dead) else ρ[i]?
  | [], ρ, i => by rw [if_neg (by simp)]; rfl
  | j :: r, ρ, i => by
    show (killL r (ρ.set j .dead))[i]? = _
    rw [killL_get r]
    by_cases h : i = j
    · subst h
      rw [if_pos (show i ∈ i :: r from List.mem_cons_self)]
      by_cases hl : i < ρ.length
      · rw [List.getElem?_set_self hl, List.getElem?_eq_getElem hl]
        split <;> rfl
      · rw [List.getElem?_eq_none (by rw [List.length_set]; omega), List.getElem?_eq_none (by omega)]
        split <;> rfl
    · rw [List.getElem?_set_ne (Ne.symm h)]
      by_cases hr : i ∈ r
      · rw [if_pos hr, if_pos (List.mem_cons_of_mem _ hr)]
      · rw [if_neg hr, if_neg (by simp only [List.mem_cons, not_or]; exact ⟨h, hr⟩)]
theorem wipe_get (σ : St) : ∀ (vs : List Nat) (i : Nat), i ∉ vs → (wipe σ vs)[i]? = σ[i]?
  | [], _, _ => rfl
  | v :: vs, i, h => by
    simp only [List.mem_cons, not_or] at h
    show ((wipe σ vs).set v none)[i]? = _
    rw [List.getElem?_set_ne (Ne.symm h.1), wipe_get σ vs i h.2]
theorem wipe_in (σ : St) : ∀ (vs : List Nat) (i : Nat), i ∈ vs → i < σ.length → (wipe σ vs)[i]? = some none
  | v :: vs, i, h, hl => by
    show ((wipe σ vs).set v none)[i]? = _
    by_cases e : v = i
    · subst e
      rw [List.getElem?_set_self (by rw [wipe_length]; exact hl)]
    · rw [List.getElem?_set_ne e]
      exact wipe_in σ vs i ((List.mem_cons.mp h).resolve_left fun z => e z.symm) hl
theorem wipe_off {σ σ' : St} {ws vs : List Nat} (h : Off ws σ σ') (hw : ∀ i ∈ ws, i ∈ vs) : wipe σ' vs = wipe σ vs := by
  refine List.ext_getElem? fun i => ?_
  by_cases hi : i ∈ vs
  · by_cases hl : i < σ.length
    · rw [wipe_in σ vs i hi hl, wipe_in σ' vs i hi (by rw [h.1]; exact hl)]
    · rw [List.getElem?_eq_none (show (wipe σ' vs).length ≤ i by rw [wipe_length, h.1]; omega), List.getElem?_eq_none (show (wipe σ vs).length ≤ i by rw [wipe_length]; omega)]
  · rw [wipe_get σ vs i hi, wipe_get σ' vs i hi, h.2 i fun z => hi (hw i z)]
theorem wipe_wipe (σ : St) (vs : List Nat) : wipe (wipe σ vs) vs = wipe σ vs := by
  refine List.ext_getElem? fun i => ?_
  by_cases hi : i ∈ vs
  · by_cases hl : i < σ.length
    · rw [wipe_in σ vs i hi hl, wipe_in _ vs i hi (by rw [wipe_length]; exact hl)]
    · rw [List.getElem?_eq_none (by rw [wipe_length, wipe_length]; omega), List.getElem?_eq_none (by rw [wipe_length]; omega)]
  · rw [wipe_get _ vs i hi]
section
variable {K : PySem.W.Frag} {B F F' H H' : Hp} {io io' : List (Nat × Addr)} {σ σ' : St} {ρ : En} {vs : List Nat}
/-- the slots may change where the cells are forgotten -/
theorem Con.move (c : Con K B F io σ H ρ) (vs : List Nat) (hl : σ'.length = σ.length) (h : ∀ i, i ∉ vs → σ'[i]? = σ[i]?) (hio : ∀ p ∈ io', σ'[p.1]? = some (some (.ref p.2))) : Con K B F io' σ' H (Pd.killL vs ρ) := by
  have own_off : ∀ {i : Nat} {e : Cell}, (Pd.killL vs ρ)[i]? = some e → isOwn e = true → i ∉ vs ∧ ρ[i]? = some e := fun {i e} he ho => by
    rw [killL_get] at he
    by_cases hi : i ∈ vs
    · rw [if_pos hi] at he
      obtain ⟨_, _, e2⟩ := Option.map_eq_some_iff.mp he
      subst e2; cases ho
    · rw [if_neg hi] at he; exact ⟨hi, he⟩
  refine ⟨by rw [hl, killL_len, c.len], c.base, c.frz, fun i e he => ?_, fun i j e1 e2 a h1 h2 o1 o2 s1 s2 => ?_, hio⟩
  · rw [killL_get] at he
    by_cases hi : i ∈ vs
    · rw [if_pos hi] at he
      obtain ⟨u, hu, e2⟩ := Option.map_eq_some_iff.mp he
      subst e2
      have hlt : i < σ'.length := by rw [hl, c.len]; exact (List.getElem?_eq_some_iff.mp hu).1
      exact ⟨σ'[i], List.getElem?_eq_getElem hlt, trivial⟩
    · rw [if_neg hi] at he
      rw [h i hi]
      exact c.cell i e he
  · obtain ⟨n1, h1⟩ := own_off h1 o1
    obtain ⟨n2, h2⟩ := own_off h2 o2
    rw [h i n1] at s1
    rw [h j n2] at s2
    exact c.sep i j e1 e2 a h1 h2 o1 o2 s1 s2
/-- the list that a comprehension makes stands in the base meanwhile -/
theorem Con.toBase (c : Con K B F io σ H ρ) {a : Addr} {o : HO} (n : H a = none) : Con K (upd B a o) F io σ (upd H a o) ρ := by
  refine ⟨c.len, same_upd2 c.base, c.frz.trans (same_upd n), fun i e he => ?_, c.sep, c.io⟩
  obtain ⟨x, hx, ok⟩ := c.cell i e he
  refine ⟨x, hx, ?_⟩
  by_cases ho : isOwn e = true
  · rw [cellOk_own ho] at ok ⊢
    obtain ⟨p, w, z1, z2, z3, z4, z5⟩ := ok
    have np : p ≠ a := ne_of_none z2 n
    exact ⟨p, w, z1, by rw [upd_ne np]; exact z2, z3, z4, by rw [upd_ne np]; exact z5⟩
  · cases e with
    | dead => trivial
    | sh d => exact ok
    | _ => exact absurd rfl ho
theorem Con.reBase {a : Addr} {o o' : HO} (c : Con K (upd B a o) F io σ H ρ) (fa : F a = none) : Con K (upd B a o') F io σ (upd H a o') ρ := by
  refine ⟨c.len, fun b x e => ?_, fun b x e => ?_, fun i e he => ?_, c.sep, c.io⟩
  · by_cases q : b = a
    · subst q; rw [upd_same] at e ⊢; exact e
    · rw [upd_ne q] at e ⊢; exact c.base b x (by rw [upd_ne q]; exact e)
  · rw [upd_ne (ne_of_none e fa)]; exact c.frz b x e
  · obtain ⟨x, hx, ok⟩ := c.cell i e he
    refine ⟨x, hx, ?_⟩
    by_cases ho : isOwn e = true
    · rw [cellOk_own ho] at ok ⊢
      obtain ⟨p, w, z1, z2, z3, z4, z5⟩ := ok
      have np : p ≠ a := fun z => by subst z; rw [upd_same] at z5; cases z5
      rw [upd_ne np] at z5
      exact ⟨p, w, z1, by rw [upd_ne np]; exact z2, z3, z4, by rw [upd_ne np]; exact z5⟩
    · cases e with
      | dead => trivial
      | sh d => exact ok
      | _ => exact absurd rfl ho
theorem Con.unBase {a : Addr} {o : HO} (c : Con K (upd B a o) F io σ H ρ) (n : B a = none) : Con K B F io σ H ρ := by
  refine ⟨c.len, (same_upd n).trans c.base, c.frz, fun i e he => ?_, c.sep, c.io⟩
  obtain ⟨x, hx, ok⟩ := c.cell i e he
  refine ⟨x, hx, ?_⟩
  by_cases ho : isOwn e = true
  · rw [cellOk_own ho] at ok ⊢
    obtain ⟨p, w, z1, z2, z3, z4, z5⟩ := ok
    have np : p ≠ a := fun z => by subst z; rw [upd_same] at z5; cases z5
    rw [upd_ne np] at z5
    exact ⟨p, w, z1, z2, z3, z4, z5⟩
  · cases e with
    | dead => trivial
    | sh d => exact ok
    | _ => exact absurd rfl ho
theorem Con.notOwned_base {a : Addr} {o : HO} (c : Con K (upd B a o) F io σ H ρ) : NotOwned σ ρ a := fun i e he ho q => by
  obtain ⟨p, w, z1, z2, z3, z4, z5⟩ := c.own he ho
  rw [q] at z1
  cases z1
  rw [upd_same] at z5
  cases z5
theorem Gr.unBase {a : Addr} {o : HO} (g : Gr (upd B a o) F F') (n : B a = none) : Gr B F F' := ⟨g.sub, fun b x e => by
  rcases g.new b x e with q | q
  · exact .inl q
  · by_cases z : b = a
    · subst z; exact .inr n
    · rw [upd_ne z] at q; exact .inr q⟩
theorem Gr.at {a : Addr} {o : HO} (g : Gr (upd B a o) F F') (n : F a = none) : F' a = none := by
  cases q : F' a with
  | none => rfl
  | some x =>
    rcases g.new a x q with z | z
    · rw [n] at z; cases z
    · rw [upd_same] at z; cases z
end
def cYes : FT := fun ρ => some (true, ρ)
structure DTs (X : Cx) (ifs : List Expr) (t : TT) (f : FT) : Prop where
  pe : PTs X ifs t
  se : ST X.K t f
theorem dts_nil {X : Cx} : DTs X [] tYes cYes := ⟨pts_nil, fun B F io σ H ρ b ρ' Q c e k => by cases e; exact k F H (Gr.refl _ _) c⟩
theorem dts_one {X : Cx} {c : Expr} {t : TT} {f : FT} (h : DT X c t f) : DTs X [c] t f := ⟨pts_one h.pe, h.se⟩
def compG (lk : Option Nat) (xs0 : List D) (vs : List Nat) (g : FG) (step : List D → En → Option (List D × En)) : List D → List D → En → Option (List D × En)
  | [], acc, ρ => if lockOk lk xs0 (killL vs ρ) = true then some (acc, killL vs ρ) else none
  | x :: r, acc, ρ => if lockOk lk xs0 (killL vs ρ) = true then (g x (killL vs ρ)).bind fun ρ1 => (step acc ρ1).bind fun q => compG lk xs0 vs g step r q.1 q.2 else none
def stp (c : FT) (e : FE) (acc : List D) (ρ : En) : Option (List D × En) := (c ρ).bind fun p => if p.1 = true then (e p.2).bind fun q => if acc.length < sizeLine then some (acc ++ [q.1], q.2) else none else some (acc, p.2)
/-- the outer values of a comprehension's names are as they were -/
def putB : List Nat → En → En → En
  | [], _, ρ => ρ
  | i :: r, ρ0, ρ => match ρ0[i]? with
    | some (.sh d) => putB r ρ0 (ρ.set i (.sh d))
    | _ => putB r ρ0 ρ
theorem Con.recall {K : PySem.W.Frag} {B F H : Hp} {io : List (Nat × Addr)} {σ : St} {ρ : En} (c : Con K B F io σ H ρ) {i : Nat} {v : V} {d : D} (hs : σ[i]? = some (some v)) (h : Dp K F v d) : Con K B F io σ H (ρ.set i (.sh d)) := by
  refine ⟨by rw [List.length_set, c.len], c.base, c.frz, fun j e he => ?_, fun j k e1 e2 a h1 h2 o1 o2 s1 s2 => ?_, c.io⟩
  · rcases get_set_cases he with ⟨rfl, rfl, hl⟩ | ⟨ne, he⟩
    · exact ⟨some v, hs, v, rfl, h⟩
    · exact c.cell j e he
  · rcases get_set_cases h1 with ⟨rfl, rfl, hl⟩ | ⟨ne1, g1⟩
    · cases o1
    · rcases get_set_cases h2 with ⟨rfl, rfl, hl⟩ | ⟨ne2, g2⟩
      · cases o2
      · exact c.sep j k e1 e2 a g1 g2 o1 o2 s1 s2
theorem Con.putB {K : PySem.W.Frag} {B F0 H0 B0 F H : Hp} {io io0 : List (Nat × Addr)} {σ : St} {ρ0 : En} (c0 : Con K B0 F0 io0 σ H0 ρ0) (s : Same F0 F) : ∀ (vs : List Nat) {ρ : En}, Con K B F io σ H ρ → Con K B F io σ H (Pd.putB vs ρ0 ρ)
  | [], _, c => c
  | i :: r, ρ, c => by
    unfold Pd.putB
    split
    · rename_i d e
      obtain ⟨x, hx, v, rfl, dd⟩ := c0.cell i _ e
      exact Con.putB c0 s r (c.recall hx (dp_mono s dd))
    · exact Con.putB c0 s r c
theorem notOwned_putB {σ : St} {ρ0 : En} {a : Addr} : ∀ (vs : List Nat) {ρ : En}, NotOwned σ ρ a → NotOwned σ (Pd.putB vs ρ0 ρ) a
  | [], _, h => h
  | i :: r, ρ, h => by
    unfold Pd.putB
    split
    · refine notOwned_putB r fun j e he ho => ?_
      rcases get_set_cases he with ⟨rfl, rfl, _⟩ | ⟨ne, he⟩
      · cases ho
      · exact h j e he ho
    · exact notOwned_putB r h
def eComp (lk : Option Nat) (vs : List Nat) (it : FA) (g : FG) (c : FT) (e : FE) : FN := fun ρ => (it ρ).bind fun p => (compG lk p.1 vs g (stp c e) p.1 [] p.2).map fun q => (.ol q.1, putB vs p.2 (killL vs q.2))
section
variable {X : Cx} {tg iter elt : Expr} {ifs : List Expr} {scope : Scope} {own : List (Str × Nat)} {pos : Pos} {wi : TI} {fi : FA} {lk : Option Nat} {ws vs : List Nat} {t1 : TG} {g1 : FG} {tt : TT} {fc : FT} {te : TE} {fe : FE}
theorem sn_comp {K : PySem.W.Frag} (hi : SI K lk wi fi) (hg : SG K [] ws t1 g1) (hc : ST K tt fc) (he : SE K te fe) (hw : ∀ i ∈ ws, i ∈ vs) (hlv : ∀ j, lk = some j → j ∉ vs) : SN K (tLc wi t1 tt te vs) (eComp lk vs fi g1 fc fe) := by
  intro B F io σ H ρ cl ρ' Q c e k
  obtain ⟨⟨xs, ρ0⟩, e1, e⟩ := Option.bind_eq_some_iff.mp e
  obtain ⟨⟨out, ρz⟩, e2, e3⟩ := Option.map_eq_some_iff.mp e
  cases e3
  refine hi B F io σ H ρ xs ρ0 _ c e1 fun F0 H0 J C g0 c0 wk hcl hlk => ?_
  intro Dd nD
  have bD : B Dd = none := c0.base.free nD
  have fD0 : F0 Dd = none := c0.frz.free nD
  have hσ : ∀ i, i ∉ vs → (wipe σ vs)[i]? = σ[i]? := wipe_get σ vs
  refine ⟨fun i m H => m = xs.length - i ∧ i ≤ xs.length ∧ ∃ F2 ρ2 acc accV, Gr B F0 F2 ∧ Con K (upd B Dd (.lst accV)) F2 [] (wipe σ vs) H (killL vs ρ2) ∧ F2 Dd = none ∧ DpAll K F2 accV acc ∧ compG lk xs vs g1 (stp fc fe) (xs.drop i) acc ρ2 = some (out, ρz),
    ⟨xs.length, by simp, Nat.zero_le _, F0, ρ0, [], [], Gr.refl _ _, (c0.toBase nD).move vs (wipe_length σ vs) hσ (fun p hp => absurd hp (List.not_mem_nil)), fD0, .nil, e2⟩, ?_⟩
  rintro i m H2 ⟨rfl, hi2, F2, ρ2, acc, accV, g2, c2, fD, dA, e4⟩
  by_cases hlt : i < xs.length
  · rw [List.drop_eq_getElem_cons hlt] at e4
    unfold compG at e4
    by_cases hlo : lockOk lk xs (killL vs ρ2) = true
    · rw [if_pos hlo] at e4
      obtain ⟨ρ3, e5, e4⟩ := Option.bind_eq_some_iff.mp e4
      obtain ⟨⟨acc4, ρ4⟩, e6, e7⟩ := Option.bind_eq_some_iff.mp e4
      have cc := hcl _ F2 [] (wipe σ vs) H2 (killL vs ρ2) g2.sub c2 hlo (fun j hj => hσ j (hlv j hj))
      refine .inr ⟨wk.go i F2 H2 cc hlt, fun H' => ∃ m', m' < xs.length - i ∧ (m' = xs.length - (i + 1) ∧ i + 1 ≤ xs.length ∧ ∃ F2 ρ2 acc accV, Gr B F0 F2 ∧ Con K (upd B Dd (.lst accV)) F2 [] (wipe σ vs) H' (killL vs ρ2) ∧ F2 Dd = none ∧ DpAll K F2 accV acc ∧ compG lk xs vs g1 (stp fc fe) (xs.drop (i + 1)) acc ρ2 = some (out, ρz)), fun H' h => h, fun x H' y => ?_⟩
      obtain ⟨e8, d, e9, dd⟩ := wk.yld i F2 H2 x H' cc hlt y
      subst e8
      rw [List.getElem?_eq_getElem hlt] at e9
      cases e9
      refine hg _ F2 [] (wipe σ vs) H' (killL vs ρ2) x xs[i] ρ3 _ rfl c2 dd e5 fun F3 σ3 H3 g3 c3 off => ⟨?_, ?_⟩
      · rw [wipe_off off hw, wipe_wipe]
      obtain ⟨p, e10, e11⟩ := Option.bind_eq_some_iff.mp e6
      refine hc _ F3 [] σ3 H3 ρ3 p.1 p.2 _ c3 e10 fun F4 H4 g4 c4 => ?_
      have back : ∀ {F5 : Hp} {H5 : Hp} {ρ5 : En} {B5 : Hp}, Con K B5 F5 [] σ3 H5 ρ5 → Con K B5 F5 [] (wipe σ vs) H5 (killL vs ρ5) := fun {F5 H5 ρ5 B5} c5 =>
        c5.move vs (by rw [off.1]) (fun j hj => ((off.2 j fun z => hj (hw j z))).symm) (fun p hp => absurd hp (List.not_mem_nil))
      by_cases hp : p.1 = true
      · rw [if_pos hp] at e11 ⊢
        obtain ⟨q, e12, e13⟩ := Option.bind_eq_some_iff.mp e11
        by_cases hz : acc.length < sizeLine
        · rw [if_pos hz] at e13
          cases e13
          refine he _ F4 [] σ3 H4 p.2 q.1 q.2 _ c4 e12 fun F5 H5 v g5 c5 d5 => ?_
          have gg := (g3.trans g4).trans g5
          have fD5 := gg.at fD
          have dA5 := dpAll_mono gg.sub dA
          refine ⟨accV, c5.base _ _ upd_same, by rw [dA.length]; exact hz, xs.length - (i + 1), by omega, rfl, hlt, F5, q.2, acc ++ [q.1], accV ++ [v], g2.trans (gg.unBase bD), back (c5.reBase fD5), fD5, dA5.append (.one d5), e7⟩
        · rw [if_neg hz] at e13; cases e13
      · rw [if_neg hp] at e11 ⊢
        cases e11
        have gg := g3.trans g4
        exact ⟨xs.length - (i + 1), by omega, rfl, hlt, F4, p.2, acc, accV, g2.trans (gg.unBase bD), back c4, gg.at fD, dpAll_mono gg.sub dA, e7⟩
    · rw [if_neg hlo] at e4; cases e4
  · have hi3 : i = xs.length := by omega
    subst hi3
    rw [List.drop_length] at e4
    unfold compG at e4
    by_cases hlo : lockOk lk xs (killL vs ρ2) = true
    · rw [if_pos hlo] at e4
      cases e4
      have cc := hcl _ F2 [] (wipe σ vs) H2 (killL vs ρ2) g2.sub c2 hlo (fun j hj => hσ j (hlv j hj))
      refine .inl ⟨wk.stop _ F2 H2 cc (Nat.le_refl _), ?_⟩
      have cf : Con K (upd B Dd (.lst accV)) F2 io σ H2 (killL vs (killL vs ρ2)) := c2.move vs (wipe_length σ vs).symm (fun j hj => (hσ j hj).symm) c.io
      exact k F2 H2 Dd (.lst accV) (g0.trans g2) (Con.putB c0 g2.sub vs (cf.unBase bD)) (c2.base _ _ upd_same) dA fD bD (notOwned_putB vs cf.notOwned_base)
    · rw [if_neg hlo] at e4; cases e4
theorem dn_comp (hcm : X.calm = true) (hN : X.N.Nodup) (hi : DI X lk tg iter wi fi) (ok : BlkOk X.N X.env.scope scope own)
    (hg : ∀ (s : Shared) (H : Hp) (C : Addr) (cl : List (Str × Addr)) (fp : List Addr), DG (X.blk s H scope (compEnvC scope cl C X.env) fp) [] ws tg t1 g1) (ht : ∀ (s : Shared) (H : Hp) (C : Addr) (cl : List (Str × Addr)) (fp : List Addr), DTs (X.blk s H scope (compEnvC scope cl C X.env) fp) ifs tt fc)
    (he : ∀ (s : Shared) (H : Hp) (C : Addr) (cl : List (Str × Addr)) (fp : List Addr), DE (X.blk s H scope (compEnvC scope cl C X.env) fp) elt te fe) (hw : ∀ i ∈ ws, i ∈ own.map (·.2) := by decide) (hlv : ∀ j, lk = some j → j ∉ own.map (·.2) := by decide) (hs : ∀ x, foldedSetIterable iter X.env x = pure x := by intro _; rfl) :
    DN X (.ListComp elt [⟨tg, iter, ifs, 0⟩] scope pos) (tLc wi t1 tt te (own.map (·.2))) (eComp lk (own.map (·.2)) fi g1 fc fe) :=
  ⟨pe_lc hcm hN hi.pe ok (fun s H C cl fp => (hg s H C cl fp).pe) (fun s H C cl fp => (ht s H C cl fp).pe) (fun s H C cl fp => (he s H C cl fp).pe) hs,
   sn_comp hi.se (hg X.s_0 X.H_0 0 [] []).se (ht X.s_0 X.H_0 0 [] []).se (he X.s_0 X.H_0 0 [] []).se hw hlv⟩
variable {L : List Nat}
/-- y = [..] on one line, y a local -/
theorem ds_setCompN {i : Nat} {y : Str} {py spos : Pos} (hcm : X.calm = true) (hN : X.N.Nodup) (hi : DI X lk tg iter wi fi) (ok : BlkOk X.N X.env.scope scope own)
    (hg : ∀ (s : Shared) (H : Hp) (C : Addr) (cl : List (Str × Addr)) (fp : List Addr), DG (X.blk s H scope (compEnvC scope cl C X.env) fp) [] ws tg t1 g1) (ht : ∀ (s : Shared) (H : Hp) (C : Addr) (cl : List (Str × Addr)) (fp : List Addr), DTs (X.blk s H scope (compEnvC scope cl C X.env) fp) ifs tt fc)
    (he : ∀ (s : Shared) (H : Hp) (C : Addr) (cl : List (Str × Addr)) (fp : List Addr), DE (X.blk s H scope (compEnvC scope cl C X.env) fp) elt te fe) (hy : X.N[i]? = some y := by rfl) (hyl : X.env.scope.names.lookup y = some .local := by rfl)
    (hsw : swapsWith (.ListComp elt [⟨tg, iter, ifs, 0⟩] scope pos) (some (.Name y py)) spos.line X.env = pure true := by exact sw_true rfl rfl rfl (by decide +kernel))
    (hw : ∀ i ∈ ws, i ∈ own.map (·.2) := by decide) (hlv : ∀ j, lk = some j → j ∉ own.map (·.2) := by decide) (hl : i ∉ L := by decide) (hs : ∀ x, foldedSetIterable iter X.env x = pure x := by intro _; rfl) :
    DS X L (.Assign [.Name y py] (.ListComp elt [⟨tg, iter, ifs, 0⟩] scope pos) spos) (tAsg (tLc wi t1 tt te (own.map (·.2))) (gName i)) (sSetN i (eComp lk (own.map (·.2)) fi g1 fc fe)) :=
  ⟨ps_setLc hcm hN hy hyl hsw hi.pe ok (fun s H C cl fp => (hg s H C cl fp).pe) (fun s H C cl fp => (ht s H C cl fp).pe) (fun s H C cl fp => (he s H C cl fp).pe) hs,
   ss_setN hl (sn_comp hi.se (hg X.s_0 X.H_0 0 [] []).se (ht X.s_0 X.H_0 0 [] []).se (he X.s_0 X.H_0 0 [] []).se hw hlv)⟩
/-- the same, the list never changed -/
theorem ds_setComp {i : Nat} {y : Str} {py spos : Pos} (hcm : X.calm = true) (hN : X.N.Nodup) (hi : DI X lk tg iter wi fi) (ok : BlkOk X.N X.env.scope scope own)
    (hg : ∀ (s : Shared) (H : Hp) (C : Addr) (cl : List (Str × Addr)) (fp : List Addr), DG (X.blk s H scope (compEnvC scope cl C X.env) fp) [] ws tg t1 g1) (ht : ∀ (s : Shared) (H : Hp) (C : Addr) (cl : List (Str × Addr)) (fp : List Addr), DTs (X.blk s H scope (compEnvC scope cl C X.env) fp) ifs tt fc)
    (he : ∀ (s : Shared) (H : Hp) (C : Addr) (cl : List (Str × Addr)) (fp : List Addr), DE (X.blk s H scope (compEnvC scope cl C X.env) fp) elt te fe) (hy : X.N[i]? = some y := by rfl) (hyl : X.env.scope.names.lookup y = some .local := by rfl)
    (hsw : swapsWith (.ListComp elt [⟨tg, iter, ifs, 0⟩] scope pos) (some (.Name y py)) spos.line X.env = pure true := by exact sw_true rfl rfl rfl (by decide +kernel))
    (hw : ∀ i ∈ ws, i ∈ own.map (·.2) := by decide) (hlv : ∀ j, lk = some j → j ∉ own.map (·.2) := by decide) (hl : i ∉ L := by decide) (hs : ∀ x, foldedSetIterable iter X.env x = pure x := by intro _; rfl) :
    DS X L (.Assign [.Name y py] (.ListComp elt [⟨tg, iter, ifs, 0⟩] scope pos) spos) (tAsg (tLc wi t1 tt te (own.map (·.2))) (gName i)) (sSet i (eFrz (eComp lk (own.map (·.2)) fi g1 fc fe))) :=
  ⟨ps_setLc hcm hN hy hyl hsw hi.pe ok (fun s H C cl fp => (hg s H C cl fp).pe) (fun s H C cl fp => (ht s H C cl fp).pe) (fun s H C cl fp => (he s H C cl fp).pe) hs,
   ss_set hl (se_frz (sn_comp hi.se (hg X.s_0 X.H_0 0 [] []).se (ht X.s_0 X.H_0 0 [] []).se (he X.s_0 X.H_0 0 [] []).se hw hlv))⟩
end
/-! ## Defs and their calls -/
def RetC (K : PySem.W.Frag) (F' H H' : Hp) (v : V) : Cell → Prop
  | .dead => False
  | .sh d => Dp K F' v d
  | c => ∃ a o, v = .ref a ∧ H' a = some o ∧ Ob K F' c o ∧ F' a = none ∧ H a = none
theorem retC_own {K : PySem.W.Frag} {F' H H' : Hp} {v : V} {c : Cell} (h : isOwn c = true) : RetC K F' H H' v c ↔ ∃ a o, v = .ref a ∧ H' a = some o ∧ Ob K F' c o ∧ F' a = none ∧ H a = none := by
  cases c <;> first | exact Iff.rfl | (cases h)
abbrev FnS := List Cell → Option (Cell × List Cell)
/-- a def's promise: the plain function m of its arguments' cells; ios: the parameters that are lists which it changes -/
def spD (K : PySem.W.Frag) (ios : List Nat) (m : FnS) : Sp := fun vs H Q _ => ∃ (F : Hp) (cs cs' : List Cell) (r : Cell), Same F H ∧ vs.length = cs.length ∧ m cs = some (r, cs') ∧
  (∀ i c, cs[i]? = some c → i ∉ ios → ∃ v d, vs[i]? = some v ∧ c = .sh d ∧ Dp K F v d) ∧
  (∀ i, i ∈ ios → ∃ a o c, cs[i]? = some c ∧ isOwn c = true ∧ vs[i]? = some (.ref a) ∧ H a = some o ∧ Ob K F c o ∧ F a = none) ∧
  (∀ i j a, i ∈ ios → j ∈ ios → vs[i]? = some (.ref a) → vs[j]? = some (.ref a) → i = j) ∧
  ∀ F' H' v, Same F F' → Same F' H' → (∀ a o, F' a = some o → F a = some o ∨ H a = none) → (∀ a o, H a = some o → (∀ i, i ∈ ios → vs[i]? ≠ some (.ref a)) → H' a = some o) → RetC K F' H H' v r →
    (∀ i, i ∈ ios → ∀ a, vs[i]? = some (.ref a) → ∃ o c', cs'[i]? = some c' ∧ isOwn c' = true ∧ H' a = some o ∧ Ob K F' c' o ∧ F' a = none) → Q v H'
def ownAt (ρ : En) (i : Nat) : Bool := match ρ[i]? with
  | some c => isOwn c
  | none => false
/-- what is told of the arguments' cells: nothing, if none is changed -/
def keepN : List Nat → Nat → Nat
  | [], _ => 0
  | _ :: _, n => n
theorem keepN_mem {ios : List Nat} {i n : Nat} (h : i ∈ ios) : keepN ios n = n := by
  cases ios with
  | nil => cases h
  | cons _ _ => rfl
def fnSem (n : Nat) (ios : List Nat) (body : FS) : FnS := fun cs => (body (cs ++ List.replicate (n - cs.length) Cell.dead)).bind fun o => match o with
  | .rt c ρ' => if ios.all (ownAt ρ') = true then some (c, ρ'.take (keepN ios cs.length)) else none
  | .nx ρ' => if ios.all (ownAt ρ') = true then some (.sh .none, ρ'.take (keepN ios cs.length)) else none
  | _ => none
section
variable {P : Program} {w : World} {K : PySem.W.Frag} {mg : Str → Option Value} {base : Heap}
theorem ownAt_get {ρ : En} {i : Nat} (h : ownAt ρ i = true) : ∃ c, ρ[i]? = some c ∧ isOwn c = true := by
  unfold ownAt at h
  split at h
  · exact ⟨_, by assumption, h⟩
  · cases h
open Classical in
theorem pd_fn {x qual : Str} {st : Stmt} {f : Addr} {fd : FuncData} {N ps : List Str} {k : Nat} (ios : List Nat) {body : FS} (Fn : Fun K x qual st f fd) (S : FnScope N ps (defScope st)) (hps : ∀ cs r, fnSem N.length ios body cs = some r → cs.length = ps.length → cs.length ≤ N.length)
    (hbody : ∀ (cdv : Value) (A : Around) (outer : List Env) (s : Shared) (H : Hp) (E : XK), Room k (A.deeper (envOfC qual (defScope st) s.heap.objs.size f cdv)) →
      ∃ t, DSs (cxOf CX0 P w K mg base N qual (defScope st) f cdv A outer s H E).nox ios (defBody st) t body) :
    FnOk P w K mg base CX0 (k + 1) f fd ps (fun vs H Q E => vs.length = ps.length ∧ spD K ios (fnSem N.length ios body) vs H Q E) := by
  refine Fn.ok S (fun vs H Q E h => h.1) (fun cdv A outer s H vs Q E hr h => ?_)
  obtain ⟨hvl, F, cs, cs', r, sm, hlen, hm, hd, ho, hsep, hq⟩ := h
  obtain ⟨t, pe, se⟩ := hbody cdv A outer s H E hr
  refine ⟨t, pe, ?_⟩
  have hcN : cs.length ≤ N.length := hps cs _ hm (by rw [← hlen]; exact hvl)
  obtain ⟨o, e1, e2⟩ := Option.bind_eq_some_iff.mp hm
  let adr : Nat → Addr := fun i => match vs[i]? with
    | some (.ref a) => a
    | _ => 0
  have hadr : ∀ i a, vs[i]? = some (.ref a) → adr i = a := fun i a e => by show (match vs[i]? with | some (.ref a) => a | _ => 0) = a; rw [e]
  let B : Hp := fun a => if ∃ i, i ∈ ios ∧ vs[i]? = some (.ref a) then none else H a
  have hB : ∀ {a}, (∀ i, i ∈ ios → vs[i]? ≠ some (.ref a)) → B a = H a := fun {a} h => if_neg (fun ⟨i, z1, z2⟩ => h i z1 z2)
  have hB0 : ∀ {a i}, i ∈ ios → vs[i]? = some (.ref a) → B a = none := fun {a i} z1 z2 => if_pos ⟨i, z1, z2⟩
  have sBH : Same B H := fun a x e => by
    by_cases z : ∃ i, i ∈ ios ∧ vs[i]? = some (.ref a)
    · have : B a = none := if_pos z
      rw [this] at e; cases e
    · have : B a = H a := if_neg z
      rw [this] at e; exact e
  have hstart : start N vs = vs.map some ++ List.replicate (N.length - cs.length) none := by rw [← hlen]; rfl
  have getσ : ∀ {i v}, vs[i]? = some v → (start N vs)[i]? = some (some v) := fun {i v} e => by
    rw [hstart, List.getElem?_append_left (by rw [List.length_map]; exact (List.getElem?_eq_some_iff.mp e).1), List.getElem?_map, e]
    rfl
  have getρ : ∀ {i c}, (cs ++ List.replicate (N.length - cs.length) Cell.dead)[i]? = some c → cs[i]? = some c ∨ c = Cell.dead := fun {i c} e => by
    by_cases hi : i < cs.length
    · rw [List.getElem?_append_left hi] at e; exact .inl e
    · rw [List.getElem?_append_right (by omega)] at e
      exact .inr (List.eq_of_mem_replicate (List.mem_of_getElem? e))
  have c0 : Con K B F (ios.map fun i => (i, adr i)) (start N vs) H (cs ++ List.replicate (N.length - cs.length) Cell.dead) := by
    refine ⟨by rw [hstart, List.length_append, List.length_append, List.length_map, List.length_replicate, List.length_replicate, hlen], sBH, sm, fun i c he => ?_, fun i j c1 c2 a h1 h2 o1 o2 s1 s2 => ?_, fun p hp => ?_⟩
    · rcases getρ he with he' | rfl
      · by_cases hi : i ∈ ios
        · obtain ⟨a, w, c', z1, z2, z3, z4, z5, z6⟩ := ho i hi
          rw [he'] at z1
          cases z1
          exact ⟨_, getσ z3, (cellOk_own z2).mpr ⟨a, w, rfl, z4, z5, z6, hB0 hi z3⟩⟩
        · obtain ⟨v, d, z1, rfl, z2⟩ := hd i c he' hi
          exact ⟨_, getσ z1, v, rfl, z2⟩
      · have hlt : i < (start N vs).length := by
          have := (List.getElem?_eq_some_iff.mp he).1
          rw [List.length_append, List.length_replicate] at this
          rw [hstart, List.length_append, List.length_map, List.length_replicate, hlen]
          exact this
        exact ⟨_, List.getElem?_eq_getElem hlt, trivial⟩
    · have i1 : i ∈ ios := by
        rcases getρ h1 with z | rfl
        · by_cases hi : i ∈ ios
          · exact hi
          · obtain ⟨v, d, _, rfl, _⟩ := hd i c1 z hi; cases o1
        · cases o1
      have j1 : j ∈ ios := by
        rcases getρ h2 with z | rfl
        · by_cases hi : j ∈ ios
          · exact hi
          · obtain ⟨v, d, _, rfl, _⟩ := hd j c2 z hi; cases o2
        · cases o2
      obtain ⟨a1, _, _, _, _, z3, _⟩ := ho i i1
      obtain ⟨a2, _, _, _, _, z4, _⟩ := ho j j1
      rw [getσ z3] at s1
      rw [getσ z4] at s2
      cases s1
      cases s2
      exact hsep i j a i1 j1 z3 z4
    · obtain ⟨i, hi, rfl⟩ := List.mem_map.mp hp
      obtain ⟨a1, _, _, _, _, z3, _⟩ := ho i hi
      rw [getσ z3, hadr i a1 z3]
  have fin : ∀ {c ρ'}, ios.all (ownAt ρ') = true → r = c → cs' = ρ'.take (keepN ios cs.length) → ∀ F' σ' H' v, Gr B F F' → Con K B F' (ios.map fun i => (i, adr i)) σ' H' ρ' → RetOk K B F' σ' H' ρ' v c → Q v H' := by
    intro c ρ' hall hr hcs F' σ' H' v g cn ret
    subst hr hcs
    have ioc : ∀ i, i ∈ ios → ∀ a, vs[i]? = some (.ref a) → ∃ c', ρ'[i]? = some c' ∧ isOwn c' = true ∧ ∃ o, σ'[i]? = some (some (.ref a)) ∧ H' a = some o ∧ Ob K F' c' o ∧ F' a = none := fun i hi a ha => by
      obtain ⟨c', z1, z2⟩ := ownAt_get (List.all_eq_true.mp hall i hi)
      obtain ⟨a', o', y1, y2, y3, y4, _⟩ := cn.own z1 z2
      have y5 := cn.io (i, adr i) (List.mem_map.mpr ⟨i, hi, rfl⟩)
      have y5 : σ'[i]? = some (some (.ref (adr i))) := y5
      rw [hadr i a ha, y1] at y5
      cases y5
      exact ⟨c', z1, z2, o', y1, y2, y3, y4⟩
    refine hq F' H' v g.sub cn.frz (fun a o e => ?_) (fun a o e hn => cn.base a o (by rw [hB hn]; exact e)) ?_ (fun i hi a ha => ?_)
    · rcases g.new a o e with z | z
      · exact .inl z
      · by_cases hx : ∃ i, i ∈ ios ∧ vs[i]? = some (.ref a)
        · obtain ⟨i, hi, ha⟩ := hx
          obtain ⟨_, _, _, _, _, _, _, y⟩ := ioc i hi a ha
          rw [y] at e; cases e
        · rw [hB (fun i hi ha => hx ⟨i, hi, ha⟩)] at z; exact .inr z
    · by_cases hown : isOwn r = true
      · rw [retOk_own hown] at ret
        rw [retC_own hown]
        obtain ⟨a, o, y1, y2, y3, y4, y5, y6⟩ := ret
        refine ⟨a, o, y1, y2, y3, y4, ?_⟩
        by_cases hx : ∃ i, i ∈ ios ∧ vs[i]? = some (.ref a)
        · obtain ⟨i, hi, ha⟩ := hx
          obtain ⟨c', z1, z2, _, z3, _⟩ := ioc i hi a ha
          exact absurd z3 (y6 i c' z1 z2)
        · rw [hB (fun i hi ha => hx ⟨i, hi, ha⟩)] at y5; exact y5
      · cases r with
        | dead => exact ret
        | sh d => exact ret
        | _ => exact absurd rfl hown
    · obtain ⟨c', z1, z2, o', _, z4, z5, z6⟩ := ioc i hi a ha
      have hi2 : i < cs.length := by rw [← hlen]; exact (List.getElem?_eq_some_iff.mp ha).1
      exact ⟨o', c', by rw [keepN_mem hi, List.getElem?_take_of_lt hi2]; exact z1, z2, z4, z5, z6⟩
  refine se B F (ios.map fun i => (i, adr i)) (start N vs) H _ o _ (by rw [List.map_map]; exact List.map_id _) c0 e1 ?_
  cases o with
  | rt c ρ' =>
    have e2 : (if ios.all (ownAt ρ') = true then some (c, ρ'.take (keepN ios cs.length)) else none) = some (r, cs') := e2
    by_cases hall : ios.all (ownAt ρ') = true
    · rw [if_pos hall] at e2
      cases e2
      exact fin hall rfl rfl
    · rw [if_neg hall] at e2; cases e2
  | nx ρ' =>
    have e2 : (if ios.all (ownAt ρ') = true then some (Cell.sh .none, ρ'.take (keepN ios cs.length)) else none) = some (r, cs') := e2
    by_cases hall : ios.all (ownAt ρ') = true
    · rw [if_pos hall] at e2
      cases e2
      exact fun F' σ' H' g cn => fin hall rfl rfl F' σ' H' .non g cn .non
    · rw [if_neg hall] at e2; cases e2
  | bk ρ' => cases e2
  | ct ρ' => cases e2
end
end L2.Pd

namespace L2.Pd
open PySem PySem.Spec PyProof.Rows
/-! ## The call of a def -/
abbrev FC := En → Option (Cell × En)
def SC (K : PySem.W.Frag) (t : TE) (f : FC) : Prop := ∀ (B F : Hp) (io : List (Nat × Addr)) (σ : St) (H : Hp) (ρ : En) (c : Cell) (ρ' : En) (Q : VK), Con K B F io σ H ρ → f ρ = some (c, ρ') →
  (∀ F' H' v, Gr B F F' → Con K B F' io σ H' ρ' → RetOk K B F' σ H' ρ' v c → Q v H') → t σ H Q
structure DC (X : Cx) (e : Expr) (t : TE) (f : FC) : Prop where
  pe : PE X e t
  se : SC X.K t f
/-- a new list is frozen -/
theorem Con.freeze_new {K : PySem.W.Frag} {B F H : Hp} {io : List (Nat × Addr)} {σ : St} {ρ : En} {a : Addr} {o : HO} {ds : List D} (c : Con K B F io σ H ρ) (ha : H a = some o) (ob : Ob K F (.ol ds) o) (fa : F a = none) (ba : B a = none) (no : NotOwned σ ρ a) :
    ∃ F', Gr B F F' ∧ Con K B F' io σ H ρ ∧ Dp K F' (.ref a) (.list ds) := by
  cases o with
  | lst vs =>
    have s1 : Same F (upd F a (.lst vs)) := same_upd fa
    refine ⟨upd F a (.lst vs), ⟨s1, fun b x e => ?_⟩, ⟨c.len, c.base, fun b x e => ?_, fun i u hu => ?_, c.sep, c.io⟩, .lst (.inl (.inl upd_same)) (dpAll_mono s1 ob)⟩
    · by_cases q : b = a
      · subst q; exact .inr ba
      · rw [upd_ne q] at e; exact .inl e
    · by_cases q : b = a
      · subst q; rw [upd_same] at e; rw [ha]; exact e
      · rw [upd_ne q] at e; exact c.frz b x e
    · obtain ⟨x, hx, ok⟩ := c.cell i u hu
      refine ⟨x, hx, ?_⟩
      by_cases ho : isOwn u = true
      · rw [cellOk_own ho] at ok ⊢
        obtain ⟨q, w, z1, z2, z3, z4, z5⟩ := ok
        subst z1
        refine ⟨q, w, rfl, z2, ob_mono s1 z3, ?_, z5⟩
        rw [upd_ne (fun z => no i u hu ho (by rw [hx, z]))]
        exact z4
      · cases u with
        | dead => trivial
        | sh d => obtain ⟨v, z1, z2⟩ := ok; exact ⟨v, z1, dp_mono s1 z2⟩
        | _ => exact absurd rfl ho
  | _ => exact False.elim ob
def cellD : Cell → Option D
  | .sh d => some d
  | .ol ds => some (.list ds)
  | _ => none
def ownC : Cell → Option Cell
  | .ol ds => some (.ol ds)
  | .od ds => some (.od ds)
  | .ot ds => some (.ot ds)
  | .os ds => some (.os ds)
  | _ => none
theorem ownC_eq {c c' : Cell} (h : ownC c = some c') : c' = c ∧ isOwn c = true := by
  cases c <;> first | (cases h; exact ⟨rfl, rfl⟩) | (cases h; done)
def eRetD (f : FC) : FE := fun ρ => (f ρ).bind fun p => (cellD p.1).map fun d => (d, p.2)
def eRetN (f : FC) : FN := fun ρ => (f ρ).bind fun p => (ownC p.1).map fun c => (c, p.2)
section
variable {X : Cx} {e : Expr} {t : TE} {f : FC}
theorem DC.de (h : DC X e t f) : DE X e t (eRetD f) := ⟨h.pe, by
  intro B F io σ H ρ d ρ' Q c e k
  obtain ⟨p, e1, e⟩ := Option.bind_eq_some_iff.mp e
  obtain ⟨z, e2, e3⟩ := Option.map_eq_some_iff.mp e
  cases e3
  refine h.se B F io σ H ρ p.1 p.2 _ c e1 fun F1 H1 v g1 c1 r1 => ?_
  cases hp : p.1 with
  | sh d0 =>
    rw [hp] at e2 r1
    cases e2
    exact k F1 H1 v g1 c1 r1
  | ol ds =>
    rw [hp] at e2 r1
    cases e2
    obtain ⟨a, o, rfl, h1, h2, h3, h4, h5⟩ := (retOk_own rfl).mp r1
    obtain ⟨F2, g2, c2, d2⟩ := c1.freeze_new h1 h2 h3 h4 h5
    exact k F2 H1 _ (g1.trans g2) c2 d2
  | _ => rw [hp] at e2; cases e2⟩
theorem DC.dn (h : DC X e t f) : DN X e t (eRetN f) := ⟨h.pe, by
  intro B F io σ H ρ d ρ' Q c e k
  obtain ⟨p, e1, e⟩ := Option.bind_eq_some_iff.mp e
  obtain ⟨z, e2, e3⟩ := Option.map_eq_some_iff.mp e
  cases e3
  obtain ⟨e4, ho⟩ := ownC_eq e2
  rw [← e4] at ho
  refine h.se B F io σ H ρ p.1 p.2 _ c e1 fun F1 H1 v g1 c1 r1 => ?_
  rw [← e4] at r1
  obtain ⟨a, o, rfl, h1, h2, h3, h4, h5⟩ := (retOk_own ho).mp r1
  exact k F1 H1 a o g1 c1 h1 h2 h3 h4 h5⟩
end
/-- f(e, ..), no argument is changed -/
def eCall0 (m : FnS) (fa : FA) : FC := fun ρ => (fa ρ).bind fun p => (m (p.1.map .sh)).map fun r => (r.1, p.2)
section
variable {X : Cx} {k : Nat} {f : Addr} {fd : FuncData} {ps : List Str} {m : FnS} {x : Str} {p pos : Pos} {e : Expr} {es : List Expr} {t : TA} {fa : FA}
abbrev FnD (P : Program) (w : World) (K : PySem.W.Frag) (mg : Str → Option Value) (base : Heap) (k : Nat) (f : Addr) (fd : FuncData) (ps : List Str) (ios : List Nat) (m : FnS) : Prop :=
  FnOk P w K mg base CX0 k f fd ps (fun vs H Q E => vs.length = ps.length ∧ spD K ios m vs H Q E)
theorem shs_get {K : PySem.W.Frag} {F : Hp} {vs : List V} {ds : List D} (h : DpAll K F vs ds) {i : Nat} {c : Cell} (e : (ds.map Cell.sh)[i]? = some c) : ∃ v d, vs[i]? = some v ∧ c = .sh d ∧ Dp K F v d := by
  rw [List.getElem?_map] at e
  obtain ⟨d, e1, e2⟩ := Option.map_eq_some_iff.mp e
  obtain ⟨v, e3, q⟩ := h.get' e1
  exact ⟨v, d, e3, e2.symm, q⟩
theorem sc_call0 {K : PySem.W.Frag} {sp : Sp} (hsp : sp = fun vs H Q E => vs.length = ps.length ∧ spD K [] m vs H Q E) (hn : ∀ ρ ds ρ', fa ρ = some (ds, ρ') → ds.length = ps.length) (ha : SA K t fa) : SC K (tCall sp [] E0 t) (eCall0 m fa) := by
  subst hsp
  intro B F io σ H ρ c ρ' Q cn e k
  obtain ⟨⟨ds, ρ1⟩, e1, e⟩ := Option.bind_eq_some_iff.mp e
  obtain ⟨⟨r, cs'⟩, e2, e3⟩ := Option.map_eq_some_iff.mp e
  cases e3
  refine ha B F io σ H ρ ds ρ1 _ cn e1 fun F1 H1 vs g1 c1 d1 => ?_
  rw [List.append_nil]
  refine ⟨by rw [d1.length]; exact hn _ _ _ e1, F1, _, cs', r, c1.frz, by rw [List.length_map, d1.length], e2, fun i c he _ => shs_get d1 he, fun i hi => absurd hi (List.not_mem_nil), fun i j a hi => absurd hi (List.not_mem_nil), ?_⟩
  intro F' H' v s1 s2 hnew hkeep ret _
  have al : Al F1 H1 F' H' := ⟨s1, fun a o ha => hkeep a o ha (fun i hi => absurd hi (List.not_mem_nil)), s2, hnew⟩
  have c2 := c1.al al
  refine k F' H' v (g1.trans (al.gr c1.base)) c2 ?_
  by_cases ho : isOwn r = true
  · rw [retC_own ho] at ret
    obtain ⟨a, o, y1, y2, y3, y4, y5⟩ := ret
    exact (retOk_own ho).mpr ⟨a, o, y1, y2, y3, y4, c1.base.free y5, c1.fresh_notOwned y5⟩
  · cases r with
    | dead => exact ret
    | sh d => exact ret
    | _ => exact absurd rfl ho
/-- the arguments are so many -/
def aLen (fa : FA) (n : Nat) : Prop := ∀ ρ ds ρ', fa ρ = some (ds, ρ') → ds.length = n
theorem aLen_nil : aLen aNil 0 := fun ρ ds ρ' h => by cases h; rfl
theorem aLen_cons {f : FE} {g : FA} {n : Nat} (h : aLen g n) : aLen (aCons f g) (n + 1) := fun ρ ds ρ' e => by
  obtain ⟨p, _, e⟩ := Option.bind_eq_some_iff.mp e
  obtain ⟨q, e2, e⟩ := Option.map_eq_some_iff.mp e
  cases e
  rw [List.length_cons, h _ _ _ e2]
theorem dc_call0 (F : FnD X.prog X.w X.K X.mg X.base k f fd ps [] m) (hr : Room k X.A) (hm : X.mg x = some (.ref f)) (hk : PySem.W.keepIn X.K (.ref f) = true) (hb : Binds X.K fd ps []) (ha : DA X (e :: es) t fa) (hn : aLen fa ps.length) (hg : Gl X x := by rfl)
    (hdb : (x == ("__debug__" : Str)) = false := by decide) (he : starEach (e :: es) X.env = (false, eval e X.env) :: starEach es X.env := by rfl) (hpl : (backTo pos (starEach es X.env)).any (·.1) = false := by rfl) :
    DC X (.Call (.Name x p) (e :: es) [] pos) (tCall (fun vs H Q E => vs.length = ps.length ∧ spD X.K [] m vs H Q E) [] E0 t) (eCall0 m fa) :=
  ⟨pe_call F hr hg hm hk hb .nil pass0 ha.pe hdb he hpl, sc_call0 rfl hn ha.se⟩
theorem dc_call00 (F : FnD X.prog X.w X.K X.mg X.base k f fd ps [] m) (hr : Room k X.A) (hm : X.mg x = some (.ref f)) (hk : PySem.W.keepIn X.K (.ref f) = true) (hb : Binds X.K fd ps []) (hn : ps.length = 0) (hg : Gl X x := by rfl)
    (hdb : (x == ("__debug__" : Str)) = false := by decide) :
    DC X (.Call (.Name x p) [] [] pos) (tCall (fun vs H Q E => vs.length = ps.length ∧ spD X.K [] m vs H Q E) [] E0 tNil) (eCall0 m aNil) :=
  ⟨pe_call0 F hr hg hm hk hb .nil pass0 hdb, sc_call0 rfl (by rw [hn]; exact aLen_nil) da_nil.se⟩
where da_nil : DA X [] tNil aNil := Pd.da_nil
end
/-! ### one argument is a list that the def changes -/
abbrev FR := En → Option (List (Option D) × En)
def AOk (K : PySem.W.Frag) (F : Hp) (x : Option (Option V)) (v : V) : Option D → Prop
  | some d => Dp K F v d
  | none => x = some (some v)
def SR (K : PySem.W.Frag) (j : Nat) (t : TA) (f : FR) : Prop := ∀ (B F : Hp) (io : List (Nat × Addr)) (σ : St) (H : Hp) (ρ : En) (as : List (Option D)) (ρ' : En) (Q : List V → Hp → Prop), Con K B F io σ H ρ → f ρ = some (as, ρ') →
  (∀ F' H' vs, Gr B F F' → Con K B F' io σ H' ρ' → Paired (fun v a => AOk K F' σ[j]? v a) vs as → Q vs H') → t σ H Q
structure DR (X : Cx) (j : Nat) (sh : List Bool) (es : List Expr) (t : TA) (f : FR) : Prop where
  pe : PA X es t
  se : SR X.K j t f
  shp : ∀ ρ as ρ', f ρ = some (as, ρ') → as.map Option.isSome = sh
def rNil : FR := fun ρ => some ([], ρ)
def rCons (f : FE) (g : FR) : FR := fun ρ => (f ρ).bind fun p => (g p.2).map fun q => (some p.1 :: q.1, q.2)
def rIo (j : Nat) (g : FR) : FR := fun ρ => if ownAt ρ j = true then (g ρ).map fun q => (none :: q.1, q.2) else none
section
variable {X : Cx} {j : Nat} {sh : List Bool} {e : Expr} {es : List Expr} {te : TE} {fe : FE} {t : TA} {g : FR}
theorem dr_nil : DR X j [] [] tNil rNil := ⟨pa_nil, fun B F io σ H ρ as ρ' Q c e k => by cases e; exact k F H [] (Gr.refl _ _) c .nil, fun ρ as ρ' e => by cases e; rfl⟩
theorem aok_mono {K : PySem.W.Frag} {F F' : Hp} {x : Option (Option V)} {v : V} {a : Option D} (s : Same F F') (h : AOk K F x v a) : AOk K F' x v a := by
  cases a with
  | none => exact h
  | some d => exact dp_mono s h
theorem dr_cons (ha : DE X e te fe) (hr : DR X j sh es t g) (hs : starEach (e :: es) X.env = (false, eval e X.env) :: starEach es X.env := by rfl) : DR X j (true :: sh) (e :: es) (tCons te t) (rCons fe g) := by
  refine ⟨pa_cons ha.pe hr.pe hs, ?_, ?_⟩
  · intro B F io σ H ρ as ρ' Q c h k
    obtain ⟨p, e1, h⟩ := Option.bind_eq_some_iff.mp h
    obtain ⟨q, e2, h⟩ := Option.map_eq_some_iff.mp h
    cases h
    refine ha.se B F io σ H ρ p.1 p.2 _ c e1 fun F1 H1 x g1 c1 d1 => ?_
    exact hr.se B F1 io σ H1 p.2 q.1 q.2 _ c1 e2 fun F2 H2 xs g2 c2 d2 => k F2 H2 (x :: xs) (g1.trans g2) c2 (.cons (dp_mono g2.sub d1) d2)
  · intro ρ as ρ' h
    obtain ⟨p, e1, h⟩ := Option.bind_eq_some_iff.mp h
    obtain ⟨q, e2, h⟩ := Option.map_eq_some_iff.mp h
    cases h
    rw [List.map_cons, hr.shp _ _ _ e2]
    rfl
theorem dr_io {x : Str} {pos : Pos} (hr : DR X j sh es t g) (hN : X.N[j]? = some x := by rfl) (hv : Vis X.env.scope x := by first | exact Or.inl rfl | exact Or.inr (Or.inl rfl) | exact Or.inr (Or.inr rfl)) (hd : (x == ("__debug__" : Str)) = false := by decide) (hcd : (x == ("__classdict__" : Str)) = false := by decide)
    (hs : starEach (.Name x pos :: es) X.env = (false, eval (.Name x pos) X.env) :: starEach es X.env := by rfl) : DR X j (false :: sh) (.Name x pos :: es) (tCons (tVar j) t) (rIo j g) := by
  refine ⟨pa_cons (pe_var hN hv hd hcd) hr.pe hs, ?_, ?_⟩
  · intro B F io σ H ρ as ρ' Q c h k
    have h : (if ownAt ρ j = true then (g ρ).map fun q => ((none : Option D) :: q.1, q.2) else none) = some (as, ρ') := h
    by_cases ho : ownAt ρ j = true
    · rw [if_pos ho] at h
      obtain ⟨q, e2, h⟩ := Option.map_eq_some_iff.mp h
      cases h
      obtain ⟨u, z1, z2⟩ := ownAt_get ho
      obtain ⟨a, o, h1, _⟩ := c.own z1 z2
      exact ⟨.ref a, h1, hr.se B F io σ H ρ q.1 q.2 _ c e2 fun F2 H2 xs g2 c2 d2 => k F2 H2 (.ref a :: xs) g2 c2 (.cons h1 d2)⟩
    · rw [if_neg ho] at h; cases h
  · intro ρ as ρ' h
    have h : (if ownAt ρ j = true then (g ρ).map fun q => ((none : Option D) :: q.1, q.2) else none) = some (as, ρ') := h
    by_cases ho : ownAt ρ j = true
    · rw [if_pos ho] at h
      obtain ⟨q, e2, h⟩ := Option.map_eq_some_iff.mp h
      cases h
      rw [List.map_cons, hr.shp _ _ _ e2]
      rfl
    · rw [if_neg ho] at h; cases h
end
def argC (c : Cell) : Option D → Cell
  | some d => .sh d
  | none => c
def eCall1 (i0 j : Nat) (m : FnS) (fr : FR) : FC := fun ρ => (fr ρ).bind fun p => (p.2[j]?).bind fun c => if isOwn c = true then (m (p.1.map (argC c))).bind fun r => (r.2[i0]?).map fun c' => (r.1, p.2.set j c') else none
section
variable {X : Cx} {k : Nat} {f : Addr} {fd : FuncData} {ps : List Str} {m : FnS} {x : Str} {p pos : Pos} {e : Expr} {es : List Expr} {t : TA} {fr : FR} {i0 j : Nat} {sh : List Bool}
theorem paired_get' {α β : Type} {R : α → β → Prop} : ∀ {as : List α} {bs : List β} {i : Nat} {b : β}, Paired R as bs → bs[i]? = some b → ∃ a, as[i]? = some a ∧ R a b
  | _, _, _, _, .nil, e => by simp at e
  | _, _, 0, b, .cons r _, e => by simp at e; subst e; exact ⟨_, rfl, r⟩
  | _, _, i + 1, b, .cons _ t, e => by
    obtain ⟨a, h1, h2⟩ := paired_get' (i := i) t (by simpa using e)
    exact ⟨a, by simpa using h1, h2⟩
theorem sc_call1 {K : PySem.W.Frag} {sp : Sp} (hsp : sp = fun vs H Q E => vs.length = ps.length ∧ spD K [i0] m vs H Q E) (hsh : ∀ i b, sh[i]? = some b → (b = false ↔ i = i0)) (hi0 : i0 < sh.length) (hn : sh.length = ps.length) (hs : ∀ ρ as ρ', fr ρ = some (as, ρ') → as.map Option.isSome = sh) (ha : SR K j t fr) :
    SC K (tCall sp [] E0 t) (eCall1 i0 j m fr) := by
  subst hsp
  intro B F io σ H ρ c ρ' Q cn e k
  obtain ⟨⟨as, ρ1⟩, e1, e⟩ := Option.bind_eq_some_iff.mp e
  obtain ⟨u, hu, e⟩ := Option.bind_eq_some_iff.mp e
  have e : (if isOwn u = true then (m (as.map (argC u))).bind fun r => (r.2[i0]?).map fun c' => (r.1, ρ1.set j c') else none) = some (c, ρ') := e
  by_cases hou : isOwn u = true
  case neg => rw [if_neg hou] at e; cases e
  rw [if_pos hou] at e
  obtain ⟨⟨r, cs'⟩, e2, e⟩ := Option.bind_eq_some_iff.mp e
  obtain ⟨c', e3, e4⟩ := Option.map_eq_some_iff.mp e
  cases e4
  have hshape := hs _ _ _ e1
  have hlen : as.length = sh.length := by rw [← hshape, List.length_map]
  refine ha B F io σ H ρ as ρ1 _ cn e1 fun F1 H1 vs g1 c1 d1 => ?_
  rw [List.append_nil]
  have hvl : vs.length = as.length := Paired.length d1
  obtain ⟨a, o, a1, a2, a3, a4, a5⟩ := c1.own hu hou
  have kind : ∀ {i : Nat} {b : Option D}, as[i]? = some b → (b = none ↔ i = i0) := fun {i b} hb => by
    have : sh[i]? = some b.isSome := by rw [← hshape, List.getElem?_map, hb]; rfl
    rw [← hsh i _ this]
    cases b <;> simp
  have at0 : as[i0]? = some none := by
    have hlt : i0 < as.length := by omega
    have e5 := List.getElem?_eq_getElem hlt
    rw [e5, (kind e5).mpr rfl]
  have v0 : vs[i0]? = some (.ref a) := by
    obtain ⟨v, q1, q2⟩ := paired_get' d1 at0
    have q2 : σ[j]? = some (some v) := q2
    rw [a1] at q2
    cases q2
    exact q1
  refine ⟨by rw [hvl, hlen, hn], F1, as.map (argC u), cs', r, c1.frz, by rw [List.length_map, hvl], e2, fun i w he hi => ?_, fun i hi => ?_, fun i i' b hi hi' _ _ => ?_, ?_⟩
  · rw [List.getElem?_map] at he
    obtain ⟨b, q1, q2⟩ := Option.map_eq_some_iff.mp he
    have hi : i ≠ i0 := fun z => hi (by rw [z]; exact List.mem_singleton.mpr rfl)
    cases b with
    | none => exact absurd ((kind q1).mp rfl) hi
    | some d =>
      obtain ⟨v, q3, q4⟩ := paired_get' d1 q1
      exact ⟨v, d, q3, q2.symm, q4⟩
  · have : i = i0 := List.mem_singleton.mp hi
    subst this
    exact ⟨a, o, u, by rw [List.getElem?_map, at0]; rfl, hou, v0, a2, a3, a4⟩
  · rw [List.mem_singleton.mp hi, List.mem_singleton.mp hi']
  · intro F' H' v s1 s2 hnew hkeep ret hio
    obtain ⟨o', c'', b1, b2, b3, b4, b5⟩ := hio i0 (List.mem_singleton.mpr rfl) a v0
    rw [e3] at b1
    cases b1
    have keep : ∀ b x, H1 b = some x → b ≠ a → H' b = some x := fun b x hb hne => hkeep b x hb fun i hi hv => by
      rw [List.mem_singleton.mp hi, v0] at hv
      cases hv
      exact hne rfl
    have free : ∀ {b}, H1 b ≠ none → F1 b = none → F' b = none := fun {b} hb hf => by
      cases q : F' b with
      | none => rfl
      | some x =>
        rcases hnew b x q with z | z
        · rw [hf] at z; cases z
        · exact absurd z hb
    have gr : Gr B F1 F' := ⟨s1, fun b x hb => by
      rcases hnew b x hb with z | z
      · exact .inl z
      · exact .inr (c1.base.free z)⟩
    have others : ∀ {i : Nat} {w : Cell}, i ≠ j → ρ1[i]? = some w → isOwn w = true → ∃ b x, σ[i]? = some (some (.ref b)) ∧ b ≠ a ∧ H1 b = some x ∧ H' b = some x ∧ Ob K F' w x ∧ F' b = none ∧ B b = none := fun {i w} hne hw how => by
      obtain ⟨b, x, y1, y2, y3, y4, y5⟩ := c1.own hw how
      have nb : b ≠ a := fun z => hne (c1.sep i j w u a hw hu how hou (by rw [y1, z]) a1)
      exact ⟨b, x, y1, nb, y2, keep b x y2 nb, ob_mono s1 y3, free (by rw [y2]; exact fun z => nomatch z) y4, y5⟩
    have hjl : j < ρ1.length := (List.getElem?_eq_some_iff.mp hu).1
    have c2 : Con K B F' io σ H' (ρ1.set j c') := by
      refine ⟨by rw [List.length_set, c1.len], fun b x hb => keep b x (c1.base b x hb) (fun z => by subst z; rw [a5] at hb; cases hb), s2, fun i w hw => ?_, fun i i' w w' b h1 h2 o1 o2 t1 t2 => ?_, c1.io⟩
      · rcases get_set_cases hw with ⟨rfl, rfl, _⟩ | ⟨ne, hw⟩
        · exact ⟨_, a1, (cellOk_own b2).mpr ⟨a, o', rfl, b3, b4, b5, a5⟩⟩
        · obtain ⟨y, hy, ok⟩ := c1.cell i w hw
          refine ⟨y, hy, ?_⟩
          by_cases how : isOwn w = true
          · obtain ⟨b, z, y1, _, _, y3, y4, y5, y6⟩ := others ne hw how
            rw [hy] at y1
            cases y1
            exact (cellOk_own how).mpr ⟨b, z, rfl, y3, y4, y5, y6⟩
          · cases w with
            | dead => trivial
            | sh d => obtain ⟨v', z1, z2⟩ := ok; exact ⟨v', z1, dp_mono s1 z2⟩
            | _ => exact absurd rfl how
      · rcases get_set_cases h1 with ⟨rfl, rfl, _⟩ | ⟨ne1, g1'⟩
        · rcases get_set_cases h2 with ⟨rfl, rfl, _⟩ | ⟨ne2, g2'⟩
          · rfl
          · obtain ⟨b', _, y1, y2, _⟩ := others ne2 g2' o2
            rw [a1] at t1; rw [y1] at t2
            cases t1; cases t2
            exact absurd rfl y2
        · rcases get_set_cases h2 with ⟨rfl, rfl, _⟩ | ⟨ne2, g2'⟩
          · obtain ⟨b', _, y1, y2, _⟩ := others ne1 g1' o1
            rw [a1] at t2; rw [y1] at t1
            cases t1; cases t2
            exact absurd rfl y2
          · exact c1.sep i i' w w' b g1' g2' o1 o2 t1 t2
    refine k F' H' v (g1.trans gr) c2 ?_
    by_cases ho : isOwn r = true
    · rw [retC_own ho] at ret
      obtain ⟨b, x, y1, y2, y3, y4, y5⟩ := ret
      refine (retOk_own ho).mpr ⟨b, x, y1, y2, y3, y4, c1.base.free y5, fun i w hw how hs => ?_⟩
      rcases get_set_cases hw with ⟨rfl, rfl, _⟩ | ⟨ne, hw⟩
      · rw [a1] at hs; cases hs
        rw [a2] at y5; cases y5
      · obtain ⟨b', z, y1', _, y3', _⟩ := others ne hw how
        rw [y1'] at hs; cases hs
        rw [y3'] at y5; cases y5
    · cases r with
      | dead => exact ret
      | sh d => exact ret
      | _ => exact absurd rfl ho
def shapeOk (i0 : Nat) (sh : List Bool) : Bool := decide (i0 < sh.length) && (List.range sh.length).all fun i => (sh[i]? == some false) == decide (i = i0)
theorem shapeOk_iff (h : shapeOk i0 sh = true) : (∀ i b, sh[i]? = some b → (b = false ↔ i = i0)) ∧ i0 < sh.length := by
  unfold shapeOk at h
  rw [Bool.and_eq_true] at h
  refine ⟨fun i b hb => ?_, of_decide_eq_true h.1⟩
  have hi : i < sh.length := (List.getElem?_eq_some_iff.mp hb).1
  have := List.all_eq_true.mp h.2 i (List.mem_range.mpr hi)
  rw [hb] at this
  have this := beq_iff_eq.mp this
  constructor
  · intro e; subst e
    exact of_decide_eq_true (this.symm.trans (by rfl))
  · intro e
    rw [decide_eq_true e] at this
    have := beq_iff_eq.mp this
    cases this; rfl
theorem dc_call1 (F : FnD X.prog X.w X.K X.mg X.base k f fd ps [i0] m) (hr : Room k X.A) (hm : X.mg x = some (.ref f)) (hk : PySem.W.keepIn X.K (.ref f) = true) (hb : Binds X.K fd ps []) (ha : DR X j sh (e :: es) t fr) (hsh : shapeOk i0 sh = true := by decide) (hn : sh.length = ps.length := by decide) (hg : Gl X x := by rfl)
    (hdb : (x == ("__debug__" : Str)) = false := by decide) (he : starEach (e :: es) X.env = (false, eval e X.env) :: starEach es X.env := by rfl) (hpl : (backTo pos (starEach es X.env)).any (·.1) = false := by rfl) :
    DC X (.Call (.Name x p) (e :: es) [] pos) (tCall (fun vs H Q E => vs.length = ps.length ∧ spD X.K [i0] m vs H Q E) [] E0 t) (eCall1 i0 j m fr) :=
  ⟨pe_call F hr hg hm hk hb .nil pass0 ha.pe hdb he hpl, sc_call1 rfl (shapeOk_iff hsh).1 (shapeOk_iff hsh).2 hn ha.shp ha.se⟩
end
end L2.Pd

namespace L2.Pd
open PySem PySem.Spec PyProof.Rows
/-! ## Own lists read; borrowed -/
section
variable {X : Cx} {i : Expr} {ti : TE} {fi : FE} {x y : Str} {p p1 p2 pos : Pos} {j : Nat}
/-- x[i], x an own list -/
def eIxOwn (j : Nat) (fi : FE) : FE := fun ρ => (ownL j ρ).bind fun _ => (fi ρ).bind fun q => (ownL j q.2).bind fun ds => (intD q.1).bind fun k => (atI ds k).map fun d => (d, q.2)
theorem de_ixOwn (j : Nat) (hi : DE X i ti fi) (hN : X.N[j]? = some x := by rfl) (hv : Vis X.env.scope x := by first | exact Or.inl rfl | exact Or.inr (Or.inl rfl) | exact Or.inr (Or.inr rfl)) (hd : (x == ("__debug__" : Str)) = false := by decide)
    (hcd : (x == ("__classdict__" : Str)) = false := by decide) (hs : PlainIx i := by exact fun _ _ => rfl) : DE X (.Subscript (.Name x p1) i pos) (tOp (rIx X.K) (tVar j) ti) (eIxOwn j fi) := by
  refine ⟨pe_ix ix_seq (pe_var hN hv hd hcd) hi.pe hs, ?_⟩
  intro B F io σ H ρ d ρ' Q c e k
  obtain ⟨ds0, z0, e⟩ := Option.bind_eq_some_iff.mp e
  obtain ⟨q, e1, e⟩ := Option.bind_eq_some_iff.mp e
  obtain ⟨ds, z1, e⟩ := Option.bind_eq_some_iff.mp e
  obtain ⟨n, z2, e⟩ := Option.bind_eq_some_iff.mp e
  obtain ⟨d', z3, e4⟩ := Option.map_eq_some_iff.mp e
  cases e4
  obtain ⟨a, _, s1, _, _⟩ := own_list c z0
  refine ⟨.ref a, s1, hi.se B F io σ H ρ q.1 q.2 _ c e1 fun F1 H1 v g1 c1 d1 => ?_⟩
  obtain ⟨a', vs, s2, h2, d2⟩ := own_list c1 z1
  have ea : a' = a := by rw [s1] at s2; cases s2; rfl
  subst ea
  rw [intD_eq z2] at d1
  cases d1
  obtain ⟨w, e5, e6⟩ := atI_dp d2 z3
  exact .inl ⟨a', vs, n, w, rfl, rfl, .inl (.inl h2), e5, k F1 H1 w g1 c1 e6⟩
/-- len(x), x an own list -/
def eLenOwn (j : Nat) : FE := fun ρ => (ownL j ρ).map fun ds => (.int ds.length, ρ)
theorem de_lenOwn (j : Nat) (hm : X.mg "len" = none) (hN : X.N[j]? = some x := by rfl) (hv : Vis X.env.scope x := by first | exact Or.inl rfl | exact Or.inr (Or.inl rfl) | exact Or.inr (Or.inr rfl)) (hd : (x == ("__debug__" : Str)) = false := by decide)
    (hcd : (x == ("__classdict__" : Str)) = false := by decide) (hg : Gl X "len" := by rfl) (he : starEach [.Name x p1] X.env = (false, eval (.Name x p1) X.env) :: starEach [] X.env := by rfl) (hpl : (backTo pos (starEach [] X.env)).any (·.1) = false := by rfl) :
    DE X (.Call (.Name "len" p) [.Name x p1] [] pos) (tCB (rLen X.K) (tCons (tVar j) tNil)) (eLenOwn j) := by
  refine ⟨pe_callB call_len hg hm (by decide +kernel) (pa_cons (pe_var hN hv hd hcd) pa_nil he) (by decide) (by decide) he hpl, ?_⟩
  intro B F io σ H ρ d ρ' Q c e k
  obtain ⟨ds, z0, e4⟩ := Option.map_eq_some_iff.mp e
  cases e4
  obtain ⟨a, vs, s1, h1, d1⟩ := own_list c z0
  exact ⟨.ref a, s1, _, _, rfl, .inl ⟨vs, .inl (.inl h1), rfl⟩, k F H _ (Gr.refl _ _) c (by rw [d1.length]; exact .int _)⟩
end
/-! ### a list lent for the while of an expression -/
mutual
def noL : D → Bool
  | .list _ => false
  | .tuple ds => noLs ds
  | .dict _ => false
  | _ => true
def noLs : List D → Bool
  | [] => true
  | d :: r => noL d && noLs r
end
def noLC : Cell → Bool
  | .dead => true
  | .sh d => noL d
  | .ol ds => noLs ds
  | .od kvs => noLs (kvs.map (·.2))
  | .ot kvs => noLs (kvs.map (·.2))
  | .os _ => true
def without (F : Hp) (a : Addr) : Hp := fun b => if b = a then none else F b
theorem without_ne {F : Hp} {a b : Addr} (h : b ≠ a) : without F a b = F b := if_neg h
theorem without_at {F : Hp} {a : Addr} : without F a a = none := if_pos rfl
section
variable {K : PySem.W.Frag} {F : Hp} {a : Addr} {ws : List V}
theorem sqT_without (h : F a = some (.lst ws)) {b : Addr} {xs : List V} (q : SqT K F b xs) : SqT K (without F a) b xs := by
  rcases q with (q | ⟨o, q⟩) | q
  · exact .inl (.inl (by rw [without_ne (fun z => by subst z; rw [h] at q; cases q)]; exact q))
  · exact .inl (.inr ⟨o, by rw [without_ne (fun z => by subst z; rw [h] at q; cases q)]; exact q⟩)
  · exact .inr q
mutual
theorem dp_without (h : F a = some (.lst ws)) : ∀ {d : D} {v : V}, Dp K F v d → noL d = true → Dp K (without F a) v d
  | .none, _, q, _ => by cases q; exact .non
  | .bool _, _, q, _ => by cases q; exact .bl _
  | .int _, _, q, _ => by cases q; exact .int _
  | .str _, _, q, _ => by cases q; exact .str _
  | .list ds, _, _, n => by simp [noL] at n
  | .dict ds, _, _, n => by simp [noL] at n
  | .tuple ds, _, q, n => by
    cases q with
    | tup q r => exact .tup (sqT_without h q) (dpAll_without h r (by simpa [noL] using n))
theorem dpAll_without (h : F a = some (.lst ws)) : ∀ {ds : List D} {vs : List V}, DpAll K F vs ds → noLs ds = true → DpAll K (without F a) vs ds
  | [], _, q, _ => by cases q; exact .nil
  | d :: ds, _, q, n => by
    rw [noLs, Bool.and_eq_true] at n
    cases q with
    | cons q r => exact .cons (dp_without h q n.1) (dpAll_without h r n.2)
end
theorem kvOk_without (h : F a = some (.lst ws)) {κ : Type} : ∀ {kvs : List (κ × D)} {us : List (κ × V)}, KvOk K F kvs us → noLs (kvs.map (·.2)) = true → KvOk K (without F a) kvs us
  | [], _, q, _ => by cases q; exact .nil
  | p :: r, _, q, n => by
    cases q with
    | cons q t =>
      have n : noLs (p.2 :: r.map (·.2)) = true := n
      rw [noLs, Bool.and_eq_true] at n
      exact .cons ⟨q.1, dp_without h q.2 n.1⟩ (kvOk_without h t n.2)
theorem ob_without (h : F a = some (.lst ws)) {c : Cell} {o : HO} (q : Ob K F c o) (n : noLC c = true) : Ob K (without F a) c o := by
  cases c <;> cases o <;> first
    | exact False.elim q
    | exact dpAll_without h q n
    | exact kvOk_without h q n
    | exact q
end
def beqKvs {κ : Type} [DecidableEq κ] : List (κ × D) → List (κ × D) → Bool
  | [], [] => true
  | (k, d) :: r, (l, e) :: s => decide (k = l) && beqD d e && beqKvs r s
  | _, _ => false
theorem beqKvs_eq {κ : Type} [DecidableEq κ] : ∀ {a b : List (κ × D)}, beqKvs a b = true → a = b
  | [], [], _ => rfl
  | [], _ :: _, h => by simp [beqKvs] at h
  | _ :: _, [], h => by simp [beqKvs] at h
  | (k, d) :: r, (l, e) :: s, h => by
    simp only [beqKvs, Bool.and_eq_true, decide_eq_true_eq] at h
    rw [h.1.1, beqD_eq h.1.2, beqKvs_eq h.2]
def beqC : Cell → Cell → Bool
  | .dead, .dead => true
  | .sh a, .sh b => beqD a b
  | .ol a, .ol b => beqDs a b
  | .od a, .od b => beqKvs a b
  | .ot a, .ot b => beqKvs a b
  | .os a, .os b => decide (a = b)
  | _, _ => false
theorem beqC_eq {a b : Cell} (h : beqC a b = true) : a = b := by
  cases a <;> cases b <;> first
    | rfl
    | (cases h; done)
    | (exact congrArg _ (beqD_eq h))
    | (exact congrArg _ (beqDs_eq h))
    | (exact congrArg _ (beqKvs_eq h))
    | (exact congrArg _ (of_decide_eq_true h))
/-- each cell has no list within, or is shared data as before -/
def lentOk : En → En → Bool
  | [], _ => true
  | c :: r, ρ => (noLC c || (match c, ρ with | .sh d, .sh e :: _ => beqD d e | _, _ => false)) && lentOk r ρ.tail
theorem lentOk_get : ∀ {ρ' ρ : En} {i : Nat} {c : Cell}, lentOk ρ' ρ = true → ρ'[i]? = some c → noLC c = true ∨ (∃ d, c = .sh d ∧ ρ[i]? = some (.sh d))
  | [], _, i, c, _, e => by simp at e
  | u :: r, ρ, 0, c, h, e => by
    simp at e; subst e
    simp only [lentOk, Bool.and_eq_true, Bool.or_eq_true] at h
    rcases h.1 with h1 | h1
    · exact .inl h1
    · cases u <;> cases ρ with
      | nil => cases h1
      | cons d s => cases d <;> first | (cases h1; done) | exact .inr ⟨_, rfl, by rw [beqD_eq h1]; rfl⟩
  | u :: r, ρ, i + 1, c, h, e => by
    simp only [lentOk, Bool.and_eq_true] at h
    have := lentOk_get (ρ' := r) (ρ := ρ.tail) (i := i) (c := c) h.2 (by simpa using e)
    rcases this with q | ⟨d, q1, q⟩
    · exact .inl q
    · cases ρ with
      | nil => simp at q
      | cons d s => exact .inr ⟨_, q1, by simpa using q⟩
theorem Con.lend {K : PySem.W.Frag} {B F F' H H' : Hp} {io : List (Nat × Addr)} {σ : St} {ρ ρ' : En} {j : Nat} {ds : List D} {a : Addr} {vs : List V} (c : Con K B F io σ H ρ) (h : ownL j ρ = some ds) (ha : σ[j]? = some (some (.ref a))) (hh : H a = some (.lst vs)) (dv : DpAll K F vs ds)
    (g : Gr B (upd F a (.lst vs)) F') (c' : Con K B F' io σ H' ρ') (ok : lentOk (ρ'.set j .dead) ρ = true) : Gr B F (without F' a) ∧ Con K B (without F' a) io σ H' (ρ'.set j (.ol ds)) ∧ F' a = some (.lst vs) := by
  obtain ⟨a0, o0, h1, h2, h3, h4, h5⟩ := c.own (ownL_eq h) rfl
  have ea : a0 = a := by rw [ha] at h1; cases h1; rfl
  subst ea
  have fa : F' a0 = some (.lst vs) := g.sub _ _ upd_same
  have sF : Same F (without F' a0) := fun b x e => by
    have nb : b ≠ a0 := fun z => by subst z; rw [h4] at e; cases e
    rw [without_ne nb]
    exact g.sub b x (by rw [upd_ne nb]; exact e)
  have sub : ∀ b x, without F' a0 b = some x → b ≠ a0 ∧ F' b = some x := fun b x e => by
    by_cases z : b = a0
    · subst z; rw [without_at] at e; cases e
    · rw [without_ne z] at e; exact ⟨z, e⟩
  have gr : Gr B F (without F' a0) := ⟨sF, fun b x e => by
    obtain ⟨nb, e⟩ := sub b x e
    rcases g.new b x e with q | q
    · rw [upd_ne nb] at q; exact .inl q
    · exact .inr q⟩
  have ha' : H' a0 = some (.lst vs) := c'.frz _ _ fa
  refine ⟨gr, ⟨by rw [List.length_set, c'.len], c'.base, fun b x e => c'.frz b x (sub b x e).2, fun i w hw => ?_, fun i i' w w' b q1 q2 o1 o2 t1 t2 => ?_, c'.io⟩, fa⟩
  · rcases get_set_cases hw with ⟨rfl, rfl, hl⟩ | ⟨ne, hw⟩
    · exact ⟨_, ha, (cellOk_own rfl).mpr ⟨a0, .lst vs, rfl, ha', dpAll_mono sF dv, without_at, h5⟩⟩
    · obtain ⟨y, hy, okc⟩ := c'.cell i w hw
      refine ⟨y, hy, ?_⟩
      have hset : (ρ'.set j .dead)[i]? = some w := by rw [List.getElem?_set_ne (Ne.symm ne)]; exact hw
      rcases lentOk_get ok hset with hn | ⟨d, rfl, hs⟩
      · by_cases how : isOwn w = true
        · rw [cellOk_own how] at okc ⊢
          obtain ⟨b, z, y1, y2, y3, y4, y5⟩ := okc
          refine ⟨b, z, y1, y2, ob_without fa y3 hn, ?_, y5⟩
          by_cases nb : b = a0
          · subst nb; exact without_at
          · rw [without_ne nb]; exact y4
        · cases w with
          | dead => trivial
          | sh d => obtain ⟨v, z1, z2⟩ := okc; exact ⟨v, z1, dp_without fa z2 hn⟩
          | _ => exact absurd rfl how
      · obtain ⟨y2, hy2, ok2⟩ := c.cell i _ hs
        have ey : y2 = y := by rw [hy] at hy2; cases hy2; rfl
        subst ey
        obtain ⟨v, z1, z2⟩ := ok2
        exact ⟨v, z1, dp_mono sF z2⟩
  · have key : ∀ (i : Nat) (w : Cell), i ≠ j → ρ'[i]? = some w → isOwn w = true → σ[i]? ≠ some (some (.ref a0)) := fun i w ne hw how q => by
      obtain ⟨a1, o1, e1, _, _, e4, _⟩ := c'.own hw how
      rw [q] at e1
      cases e1
      rw [fa] at e4
      cases e4
    rcases get_set_cases q1 with ⟨rfl, rfl, _⟩ | ⟨ne1, g1⟩
    · rcases get_set_cases q2 with ⟨rfl, rfl, _⟩ | ⟨ne2, g2⟩
      · rfl
      · rw [ha] at t1
        cases t1
        exact absurd t2 (key i' w' ne2 g2 o2)
    · rcases get_set_cases q2 with ⟨rfl, rfl, _⟩ | ⟨ne2, g2⟩
      · rw [ha] at t2
        cases t2
        exact absurd t1 (key i w ne1 g1 o1)
      · exact c'.sep i i' w w' b g1 g2 o1 o2 t1 t2
/-! the wrappers: slot j is lent -/
def lendB (j : Nat) (ds : List D) (ρ ρ' : En) : Option En := if lentOk (ρ'.set j .dead) ρ = true then some (ρ'.set j (.ol ds)) else none
def eBor (j : Nat) (f : FE) : FE := fun ρ => (ownL j ρ).bind fun ds => (f (ρ.set j (.sh (.list ds)))).bind fun p => if noL p.1 = true then (lendB j ds ρ p.2).map fun ρ' => (p.1, ρ') else none
def eBorT (j : Nat) (f : FT) : FT := fun ρ => (ownL j ρ).bind fun ds => (f (ρ.set j (.sh (.list ds)))).bind fun p => (lendB j ds ρ p.2).map fun ρ' => (p.1, ρ')
def eBorN (j : Nat) (f : FN) : FN := fun ρ => (ownL j ρ).bind fun ds => (f (ρ.set j (.sh (.list ds)))).bind fun p => if noLC p.1 = true then (lendB j ds ρ p.2).map fun ρ' => (p.1, ρ') else none
theorem lendB_eq {j : Nat} {ds : List D} {ρ ρ' r : En} (h : lendB j ds ρ ρ' = some r) : lentOk (ρ'.set j .dead) ρ = true ∧ r = ρ'.set j (.ol ds) := by
  unfold lendB at h
  split at h
  · cases h; exact ⟨by assumption, rfl⟩
  · cases h
theorem se_bor {K : PySem.W.Frag} {t : TE} {f : FE} (j : Nat) (h : SE K t f) : SE K t (eBor j f) := by
  intro B F io σ H ρ d ρ' Q c e k
  obtain ⟨ds, z0, e⟩ := Option.bind_eq_some_iff.mp e
  obtain ⟨p, e1, e⟩ := Option.bind_eq_some_iff.mp e
  obtain ⟨a, vs, h1, h2, dv, g, dd, cf⟩ := c.freezeV (ownL_eq z0)
  by_cases hn : noL p.1 = true
  · rw [if_pos hn] at e
    obtain ⟨r, e2, e3⟩ := Option.map_eq_some_iff.mp e
    cases e3
    obtain ⟨ok, rfl⟩ := lendB_eq e2
    refine h B _ io σ H _ p.1 p.2 _ cf e1 fun F1 H1 v g1 c1 d1 => ?_
    obtain ⟨g2, c2, fa⟩ := Con.lend c z0 h1 h2 dv g1 c1 ok
    exact k _ H1 v g2 c2 (dp_without fa d1 hn)
  · rw [if_neg hn] at e; cases e
theorem st_bor {K : PySem.W.Frag} {t : TT} {f : FT} (j : Nat) (h : ST K t f) : ST K t (eBorT j f) := by
  intro B F io σ H ρ d ρ' Q c e k
  obtain ⟨ds, z0, e⟩ := Option.bind_eq_some_iff.mp e
  obtain ⟨p, e1, e⟩ := Option.bind_eq_some_iff.mp e
  obtain ⟨a, vs, h1, h2, dv, g, dd, cf⟩ := c.freezeV (ownL_eq z0)
  obtain ⟨r, e2, e3⟩ := Option.map_eq_some_iff.mp e
  cases e3
  obtain ⟨ok, rfl⟩ := lendB_eq e2
  refine h B _ io σ H _ p.1 p.2 _ cf e1 fun F1 H1 g1 c1 => ?_
  obtain ⟨g2, c2, fa⟩ := Con.lend c z0 h1 h2 dv g1 c1 ok
  exact k _ H1 g2 c2
theorem sn_bor {K : PySem.W.Frag} {t : TE} {f : FN} (j : Nat) (h : SN K t f) : SN K t (eBorN j f) := by
  intro B F io σ H ρ d ρ' Q c e k
  obtain ⟨ds, z0, e⟩ := Option.bind_eq_some_iff.mp e
  obtain ⟨p, e1, e⟩ := Option.bind_eq_some_iff.mp e
  obtain ⟨a, vs, h1, h2, dv, g, dd, cf⟩ := c.freezeV (ownL_eq z0)
  by_cases hn : noLC p.1 = true
  · rw [if_pos hn] at e
    obtain ⟨r, e2, e3⟩ := Option.map_eq_some_iff.mp e
    cases e3
    obtain ⟨ok, rfl⟩ := lendB_eq e2
    refine h B _ io σ H _ p.1 p.2 _ cf e1 fun F1 H1 b o g1 c1 hb ob fb bb no => ?_
    obtain ⟨g2, c2, fa⟩ := Con.lend c z0 h1 h2 dv g1 c1 ok
    have nb : b ≠ a := fun z => by subst z; rw [fa] at fb; cases fb
    refine k _ H1 b o g2 c2 hb (ob_without fa ob hn) (by rw [without_ne nb]; exact fb) bb fun i w hw how q => ?_
    rcases get_set_cases hw with ⟨rfl, rfl, _⟩ | ⟨ne, hw⟩
    · rw [h1] at q; cases q; exact nb rfl
    · exact no i w hw how q
  · rw [if_neg hn] at e; cases e
theorem de_bor {X : Cx} {e : Expr} {t : TE} {f : FE} (j : Nat) (h : DE X e t f) : DE X e t (eBor j f) := ⟨h.pe, se_bor j h.se⟩
theorem dt_bor {X : Cx} {e : Expr} {t : TT} {f : FT} (j : Nat) (h : DT X e t f) : DT X e t (eBorT j f) := ⟨h.pe, st_bor j h.se⟩
theorem dn_bor {X : Cx} {e : Expr} {t : TE} {f : FN} (j : Nat) (h : DN X e t f) : DN X e t (eBorN j f) := ⟨h.pe, sn_bor j h.se⟩
end L2.Pd

namespace L2.Pd
open PySem PySem.Spec PyProof.Rows
/-! ## A def as its callers know it -/
/-- the text's def x, as the top has left it -/
structure Src (K : PySem.W.Frag) (mg : Str → Option Value) (x : Str) (st : Stmt) (ps : List Str) : Prop where
  ex : ∃ (f : Addr) (fd : FuncData), Fun K x x st f fd ∧ mg x = some (.ref f) ∧ Binds K fd ps []
/-- the def x keeps the promise m -/
structure Cal (P : Program) (w : World) (K : PySem.W.Frag) (mg : Str → Option Value) (base : Heap) (k : Nat) (x : Str) (ps : List Str) (ios : List Nat) (m : FnS) : Prop where
  ex : ∃ (f : Addr) (fd : FuncData), FnD P w K mg base k f fd ps ios m ∧ mg x = some (.ref f) ∧ PySem.W.keepIn K (.ref f) = true ∧ Binds K fd ps []
section
variable {P : Program} {w : World} {K : PySem.W.Frag} {mg : Str → Option Value} {base : Heap}
theorem pd_cal {x : Str} {st : Stmt} {N ps : List Str} {k : Nat} (ios : List Nat) {n : Nat} {body : FS} (S : Src K mg x st ps) (C : FnScope N ps (defScope st)) (hn : N.length = n := by rfl)
    (hbody : ∀ (f : Addr) (cdv : Value) (A : Around) (outer : List Env) (s : Shared) (H : Hp) (E : XK), Room k (A.deeper (envOfC x (defScope st) s.heap.objs.size f cdv)) →
      ∃ t, DSs (cxOf CX0 P w K mg base N x (defScope st) f cdv A outer s H E).nox ios (defBody st) t body) :
    Cal P w K mg base (k + 1) x ps ios (fnSem n ios body) := by
  subst hn
  obtain ⟨f, fd, F, hm, hb⟩ := S.ex
  refine ⟨f, fd, pd_fn ios F C (fun cs r _ hl => ?_) (hbody f), hm, F.kp, hb⟩
  rw [hl, ← C.pre, List.length_take]
  exact Nat.min_le_right _ _
theorem pd_fnN {x : Str} {st : Stmt} {f : Addr} {fd : FuncData} {N ps : List Str} {k : Nat} (ios : List Nat) {n : Nat} {body : FS} (Fn : Fun K x x st f fd) (C : FnScope N ps (defScope st)) (hn : N.length = n := by rfl)
    (hbody : ∀ (cdv : Value) (A : Around) (outer : List Env) (s : Shared) (H : Hp) (E : XK), Room k (A.deeper (envOfC x (defScope st) s.heap.objs.size f cdv)) →
      ∃ t, DSs (cxOf CX0 P w K mg base N x (defScope st) f cdv A outer s H E).nox ios (defBody st) t body) : FnD P w K mg base (k + 1) f fd ps ios (fnSem n ios body) := by
  subst hn
  refine pd_fn ios Fn C (fun cs r _ hl => ?_) hbody
  rw [hl, ← C.pre, List.length_take]
  exact Nat.min_le_right _ _
theorem src_mk {x : Str} {st : Stmt} {ps : List Str} {f : Addr} {oc : Value} {od an : Option Addr} {osl : Array (Option Value)} {kV doc pm cdv ct : Value} (hm : mg x = some (.ref f)) (l : K.lookup f = some ⟨oc, od, .func (PySem.W.fnOf x x (defArgs st) (defBody st) (defScope st) .none kV doc pm an cdv ct), osl⟩)
    (c : PySem.W.codeIn K cdv x = true) (k : PySem.W.keepIn K (.ref f) = true)
    (h : ∀ (kV doc pm : Value) (an : Option Addr) (cdv ct : Value) (us : List Value), us.length = ps.length → bindArgs (PySem.W.fnOf x x (defArgs st) (defBody st) (defScope st) .none kV doc pm an cdv ct) ⟨us, []⟩ = pure (ps.zip us)) : Src K mg x st ps := by
  have F := fun_mk l c k
  exact ⟨f, _, F, hm, F.binds h⟩
theorem cal_none {x : Str} {st : Stmt} {ps : List Str} {k : Nat} {ios : List Nat} (S : Src K mg x st ps) : Cal P w K mg base k x ps ios (fun _ => none) := by
  obtain ⟨f, fd, F, hm, hb⟩ := S.ex
  refine ⟨f, fd, ⟨fun vs H Q E h => ?_, fun A outer s H args us vs Q E hr => ?_⟩, hm, F.kp, hb⟩
  · exact h.1
  · rintro - - - ⟨-, F, cs, cs', r, -, -, hm, -⟩
    cases hm
theorem Cal.cast {j k : Nat} {x : Str} {ps : List Str} {ios : List Nat} {m : FnS} (h : Cal P w K mg base k x ps ios m) (e : k = j) : Cal P w K mg base j x ps ios m := e ▸ h
/-- a constant of the module -/
structure Kon (K : PySem.W.Frag) (mg : Str → Option Value) (x : Str) (v : V) (d : D) : Prop where
  ex : ∃ (u : Value), mg x = some u ∧ RelV v u ∧ ∀ F, Dp K F v d
/-- a tuple that the top has written -/
theorem kon_tup {h : Heap} {x : Str} {a : Addr} {its : Array Value} {n : Nat} {od : Option Addr} {sl : Array (Option Value)} {xs : List V} {ds : List D} (X : K.In h) (G : h.Ns mainGlobals mg) (e : PySem.W.nsIn K mainGlobals x = some (some (.ref a))) (l : K.lookup a = some ⟨.type "tuple", od, .seq its n, sl⟩)
    (hs : its.size ≤ sizeLine) (hv : Vals xs its.toList) (hd : ∀ F, DpAll K F xs ds) : Kon K mg x (.ref a) (.tuple ds) :=
  ⟨_, PySem.W.mg_of X G e, rfl, fun F => .tup (.inr ⟨_, its, n, l, rfl, rfl, hs, hv⟩) (hd F)⟩
end
section
variable {X : Cx} {k : Nat} {ps : List Str} {m : FnS} {x : Str} {p pos : Pos} {e : Expr} {es : List Expr} {t : TA} {fa : FA} {fr : FR} {i0 j : Nat} {sh : List Bool}
theorem dc_cal0 (C : Cal X.prog X.w X.K X.mg X.base k x ps [] m) (hr : Room k X.A) (ha : DA X (e :: es) t fa) (hn : aLen fa ps.length) (hg : Gl X x := by rfl)
    (hdb : (x == ("__debug__" : Str)) = false := by decide) (he : starEach (e :: es) X.env = (false, eval e X.env) :: starEach es X.env := by rfl) (hpl : (backTo pos (starEach es X.env)).any (·.1) = false := by rfl) :
    DC X (.Call (.Name x p) (e :: es) [] pos) (tCall (fun vs H Q E => vs.length = ps.length ∧ spD X.K [] m vs H Q E) [] E0 t) (eCall0 m fa) := by
  obtain ⟨f, fd, F, hm, hk, hb⟩ := C.ex
  exact dc_call0 F hr hm hk hb ha hn hg hdb he hpl
theorem dc_cal00 (C : Cal X.prog X.w X.K X.mg X.base k x ps [] m) (hr : Room k X.A) (hn : ps.length = 0 := by rfl) (hg : Gl X x := by rfl)
    (hdb : (x == ("__debug__" : Str)) = false := by decide) :
    DC X (.Call (.Name x p) [] [] pos) (tCall (fun vs H Q E => vs.length = ps.length ∧ spD X.K [] m vs H Q E) [] E0 tNil) (eCall0 m aNil) := by
  obtain ⟨f, fd, F, hm, hk, hb⟩ := C.ex
  exact dc_call00 F hr hm hk hb hn hg hdb
theorem dc_cal1 (C : Cal X.prog X.w X.K X.mg X.base k x ps [i0] m) (hr : Room k X.A) (ha : DR X j sh (e :: es) t fr) (hsh : shapeOk i0 sh = true := by decide) (hn : sh.length = ps.length := by decide) (hg : Gl X x := by rfl)
    (hdb : (x == ("__debug__" : Str)) = false := by decide) (he : starEach (e :: es) X.env = (false, eval e X.env) :: starEach es X.env := by rfl) (hpl : (backTo pos (starEach es X.env)).any (·.1) = false := by rfl) :
    DC X (.Call (.Name x p) (e :: es) [] pos) (tCall (fun vs H Q E => vs.length = ps.length ∧ spD X.K [i0] m vs H Q E) [] E0 t) (eCall1 i0 j m fr) := by
  obtain ⟨f, fd, F, hm, hk, hb⟩ := C.ex
  exact dc_call1 F hr hm hk hb ha hsh hn hg hdb he hpl
theorem de_kon {v : V} {d : D} (C : Kon X.K X.mg x v d) (hg : Gl X x := by rfl) (hd : (x == ("__debug__" : Str)) = false := by decide) : DE X (.Name x pos) (tC v) (eC d) := by
  obtain ⟨u, hm, r, h⟩ := C.ex
  exact de_glob hm r h hg hd
theorem hu_of' {A : Around} {k : Nat} (hr : Room k A) : A.units + 100 < cLine := by have := hr.un; omega
end
/-! ## x op= e for ints and texts -/
section
variable {X : Cx} {K : PySem.W.Frag}
abbrev rIaddD : R2 := fun x y H Q => rI0 (fun i j => .int (i + j)) x y H Q ∨ (∃ i j, x = .str i ∧ y = .str j ∧ i.length + j.length ≤ sizeLine ∧ Q (.str (i ++ j)) H)
theorem ip_addD : OpR X (inplaceOp .Add) rIaddD := iop_add.or iop_add_str
def dIadd : D → D → Option D
  | .int a, .int b => some (.int (a + b))
  | .str a, .str b => if a.length + b.length ≤ sizeLine then some (.str (a ++ b)) else none
  | _, _ => none
theorem v_iadd : Op2 K rIaddD dIadd := by
  intro F H x y dx dy d Q s hx hy e k
  cases hx with
  | int a =>
    cases hy with
    | int b => cases e; exact .inl ⟨a, b, rfl, rfl, k F H _ (Al.refl s) (.int _)⟩
    | _ => cases e
  | str a =>
    cases hy with
    | str b =>
      have e : (if a.length + b.length ≤ sizeLine then some (PyData.str (a ++ b)) else none) = some d := e
      by_cases hz : a.length + b.length ≤ sizeLine
      · rw [if_pos hz] at e; cases e
        exact .inr ⟨a, b, rfl, rfl, hz, k F H _ (Al.refl s) (.str _)⟩
      · rw [if_neg hz] at e; cases e
    | _ => cases e
  | _ => cases e
theorem ip_subD : OpR X (inplaceOp .Sub) (rI0 fun i j => .int (i - j)) := iop_sub
theorem ip_mulD : OpR X (inplaceOp .Mult) (rI IntMulOk fun i j => .int (i * j)) := opI fun _ _ _ _ _ _ _ hc q => imul_int q hc
theorem ip_fdivD : OpR X (inplaceOp .FloorDiv) (rI CFd fun i j => .int (i.fdiv j)) := opI fun _ _ _ _ _ _ _ hc q => ifloordiv_int hc.1 q (.inl hc.2)
theorem ip_modD : OpR X (inplaceOp .Mod) (rI (fun _ j => j ≠ 0) fun i j => .int (i.fmod j)) := opI fun _ _ _ _ _ _ _ hc q => imod_int hc q
/-! ### lists: a + b -/
def rCatL (K : PySem.W.Frag) : R2 := fun x y H Q => ∃ l b xs zs, x = .ref l ∧ y = .ref b ∧ SqL K H l xs ∧ SqL K H b zs ∧ xs.length + zs.length ≤ sizeLine ∧ ∀ p, H p = none → Q (.ref p) (upd H p (.lst (xs ++ zs)))
theorem op_addL : OpR X (binaryOp .Add) (rCatL X.K) := by
  intro pins s σ H x y v u Q I rx ry h
  obtain ⟨l, b, xs, zs, rfl, rfl, hH, hB, hz, q⟩ := h
  cases rx
  cases ry
  obtain ⟨its, r, ht, _⟩ := I.list hH
  obtain ⟨its2, r2, ht2, _⟩ := I.list hB
  have e1 := r.length
  have e2 := r2.length
  obtain ⟨⟨cls, dd, data, sl⟩, ho, hc, n, hd⟩ := ht.isList
  obtain ⟨⟨cls2, dd2, data2, sl2⟩, ho2, hc2, n2, hd2⟩ := ht2.isList
  simp only at hc hd hc2 hd2
  subst hc hd hc2 hd2
  have ea : its.toArray ++ its2.toArray = (its ++ its2).toArray := by simp
  refine concat_meets ⟨_, ho, rfl⟩ ⟨_, ho2, rfl⟩ noFill_list_add seq_list_add PySem.F.slot_list_add PySem.F.entry_list_add (PySem.F.args_list_add_2 _ _) (list_addW l b its.toArray its2.toArray n n2 dd dd2 sl sl2 (by rw [List.size_toArray, List.size_toArray]; omega)) ⟨ho, ho2, ?_⟩
  rw [ea]
  exact ⟨.ref _, _, I.lnew (t' := s.toks) (r.append r2) (by rw [List.length_append]; omega), rfl, q _ I.fresh⟩
def dAddL : D → D → Option Cell
  | .list a, .list b => if a.length + b.length ≤ sizeLine then some (.ol (a ++ b)) else none
  | _, _ => none
theorem v_addL : Op2N K (rCatL K) dAddL := by
  intro F H x y dx dy c Q s hx hy e k
  cases hx with
  | @lst a xs ds q1 r1 =>
    cases hy with
    | @lst b ys es q2 r2 =>
      have e : (if ds.length + es.length ≤ sizeLine then some (Cell.ol (ds ++ es)) else none) = some c := e
      by_cases hz : ds.length + es.length ≤ sizeLine
      · rw [if_pos hz] at e; cases e
        refine ⟨a, b, xs, ys, rfl, rfl, s.seq q1, s.seq q2, by rw [r1.length, r2.length]; exact hz, fun p np => ?_⟩
        exact k F _ p (.lst (xs ++ ys)) (Al.laidH s np) upd_same (r1.append r2) (s.free np) np
      · rw [if_neg hz] at e; cases e
    | _ => cases e
  | _ => cases e
/-- a + b of ints, texts, tuples; of lists, frozen -/
abbrev rAddA (K : PySem.W.Frag) : R2 := fun x y H Q => rAddD K x y H Q ∨ rCatL K x y H Q
theorem op_addA : OpR X (binaryOp .Add) (rAddA X.K) := op_addD.or op_addL
def dAddA : D → D → Option D
  | .list a, .list b => if a.length + b.length ≤ sizeLine then some (.list (a ++ b)) else none
  | a, b => dAdd a b
theorem v_addA : Op2 K (rAddA K) dAddA := by
  intro F H x y dx dy d Q s hx hy e k
  by_cases hl : ∃ a b, dx = .list a ∧ dy = .list b
  · obtain ⟨a, b, rfl, rfl⟩ := hl
    refine .inr (v_addL.frz F H x y _ _ d Q s hx hy ?_ k)
    have e : (if a.length + b.length ≤ sizeLine then some (PyData.list (a ++ b)) else none) = some d := e
    show (if a.length + b.length ≤ sizeLine then some (Cell.ol (a ++ b)) else none).bind frzC = some d
    by_cases hz : a.length + b.length ≤ sizeLine
    · rw [if_pos hz] at e ⊢; exact e
    · rw [if_neg hz] at e; cases e
  · refine .inl (v_add F H x y dx dy d Q s hx hy ?_ k)
    cases dx <;> cases dy <;> first | exact e | exact absurd ⟨_, _, rfl, rfl⟩ hl
/-! ### list * int, the list new -/
def eRepN (fa : FN) (fb : FE) : FN := fun ρ => (fa ρ).bind fun p => (fb p.2).bind fun q => match p.1, q.1 with
  | .ol ds, .int n => if -(2 ^ 63) ≤ n ∧ n < 2 ^ 63 ∧ ds.length * n.toNat ≤ sizeLine then some (.ol (List.replicate n.toNat ds).flatten, q.2) else none
  | _, _ => none
theorem _root_.L2.DpAll.rep {F : Hp} {vs : List V} {ds : List D} (h : DpAll K F vs ds) : ∀ n : Nat, DpAll K F (List.replicate n vs).flatten (List.replicate n ds).flatten
  | 0 => .nil
  | n + 1 => by
    rw [List.replicate_succ, List.replicate_succ, List.flatten_cons, List.flatten_cons]
    exact h.append (DpAll.rep h n)
/-! ### list.insert -/
abbrev rInsertD : V → List V → Hp → VK → Prop := fun x vs H Q => ∃ (l : Addr) (xs : List V) (i : Int) (y : V), x = .ref l ∧ vs = [.int i, y] ∧ H l = some (.lst xs) ∧ xs.length < sizeLine ∧ 0 ≤ i ∧ i < 2 ^ 63 ∧ Q .non (upd H l (.lst (xs.take i.toNat ++ [y] ++ xs.drop i.toNat)))
theorem l_insert : OpL K rInsertD lInsert := by
  intro F H a vs xs ds es z Q h d1 d2 e k
  match es, d2, e with
  | [.int i, x], d2, e =>
    obtain ⟨v1, v, rfl, dv1, dv⟩ := two_of d2
    cases dv1
    have e : (if ds.length < sizeLine ∧ 0 ≤ i ∧ i < 2 ^ 63 then some (PyData.none, ds.take i.toNat ++ x :: ds.drop i.toNat) else none) = some z := e
    by_cases hz : ds.length < sizeLine ∧ 0 ≤ i ∧ i < 2 ^ 63
    · rw [if_pos hz] at e; cases e
      refine ⟨a, vs, i, v, rfl, rfl, h, by rw [d1.length]; exact hz.1, hz.2.1, hz.2.2, k _ _ .non ?_⟩
      have := ((d1.take i.toNat).append (DpAll.one dv)).append (d1.drop i.toNat)
      simpa using this
    · rw [if_neg hz] at e; cases e
end
/-! ## The law's own head -/
theorem law_sp {K : PySem.W.Frag} {m : FnS} {a : Addr} {H : Hp} {ns : List Int} {E : XK} (hS : SqL K H a (ns.map V.int)) (hm : ∃ z, m [.sh (.list (ns.map .int))] = some (.sh (.bool true), z)) : [V.ref a].length = ["script"].length ∧ spD K [] m [.ref a] H (fun v _ => v = .bl true) E := by
  obtain ⟨z, hm⟩ := hm
  refine ⟨rfl, H, _, z, _, Same.refl H, rfl, hm, fun i c hc _ => ?_, fun i hi => absurd hi (List.not_mem_nil), fun i j b hi => absurd hi (List.not_mem_nil), ?_⟩
  · match i, hc with
    | 0, hc => cases hc; exact ⟨.ref a, _, rfl, rfl, .lst hS (dp_ints ns)⟩
  · intro F' H' v _ _ _ _ ret _
    cases ret
    rfl
end L2.Pd

namespace L2.Pd
open PySem PySem.Spec PyProof.Rows
/-! ## Comprehensions, the readings of their parts told per entry -/
section
variable {X : Cx} {elt tg iter : Expr} {ifs : List Expr} {scope : Scope} {own : List (Str × Nat)} {pos : Pos} {wi : TI} {lk : Option Nat} {fi : FA} {ws : List Nat} {g1 : FG} {fc : FT} {fe : FE} {L : List Nat}
  {t1 : Shared → Hp → Addr → List (Str × Addr) → List Addr → TG} {tt : Shared → Hp → Addr → List (Str × Addr) → List Addr → TT} {te : Shared → Hp → Addr → List (Str × Addr) → List Addr → TE}
theorem dn_compX (hcm : X.calm = true) (hN : X.N.Nodup) (hi : DI X lk tg iter wi fi) (ok : BlkOk X.N X.env.scope scope own)
    (hg : ∀ (s : Shared) (H : Hp) (C : Addr) (cl : List (Str × Addr)) (fp : List Addr), DG (X.blk s H scope (compEnvC scope cl C X.env) fp) [] ws tg (t1 s H C cl fp) g1) (ht : ∀ (s : Shared) (H : Hp) (C : Addr) (cl : List (Str × Addr)) (fp : List Addr), DTs (X.blk s H scope (compEnvC scope cl C X.env) fp) ifs (tt s H C cl fp) fc)
    (he : ∀ (s : Shared) (H : Hp) (C : Addr) (cl : List (Str × Addr)) (fp : List Addr), DE (X.blk s H scope (compEnvC scope cl C X.env) fp) elt (te s H C cl fp) fe) (hw : ∀ i ∈ ws, i ∈ own.map (·.2) := by decide) (hlv : ∀ j, lk = some j → j ∉ own.map (·.2) := by decide) (hs : ∀ x, foldedSetIterable iter X.env x = pure x := by intro _; rfl)
    (h1 : ∀ s H C cl fp, t1 s H C cl fp = t1 X.s_0 X.H_0 0 [] [] := by exact fun _ _ _ _ _ => rfl) (h2 : ∀ s H C cl fp, tt s H C cl fp = tt X.s_0 X.H_0 0 [] [] := by exact fun _ _ _ _ _ => rfl) (h3 : ∀ s H C cl fp, te s H C cl fp = te X.s_0 X.H_0 0 [] [] := by exact fun _ _ _ _ _ => rfl) :
    DN X (.ListComp elt [⟨tg, iter, ifs, 0⟩] scope pos) (tLc wi (t1 X.s_0 X.H_0 0 [] []) (tt X.s_0 X.H_0 0 [] []) (te X.s_0 X.H_0 0 [] []) (own.map (·.2))) (eComp lk (own.map (·.2)) fi g1 fc fe) :=
  dn_comp hcm hN hi ok (fun s H C cl fp => h1 s H C cl fp ▸ hg s H C cl fp) (fun s H C cl fp => h2 s H C cl fp ▸ ht s H C cl fp) (fun s H C cl fp => h3 s H C cl fp ▸ he s H C cl fp) hw hlv hs
theorem ds_setCompNX {i : Nat} {y : Str} {py spos : Pos} (hcm : X.calm = true) (hN : X.N.Nodup) (hi : DI X lk tg iter wi fi) (ok : BlkOk X.N X.env.scope scope own)
    (hg : ∀ (s : Shared) (H : Hp) (C : Addr) (cl : List (Str × Addr)) (fp : List Addr), DG (X.blk s H scope (compEnvC scope cl C X.env) fp) [] ws tg (t1 s H C cl fp) g1) (ht : ∀ (s : Shared) (H : Hp) (C : Addr) (cl : List (Str × Addr)) (fp : List Addr), DTs (X.blk s H scope (compEnvC scope cl C X.env) fp) ifs (tt s H C cl fp) fc)
    (he : ∀ (s : Shared) (H : Hp) (C : Addr) (cl : List (Str × Addr)) (fp : List Addr), DE (X.blk s H scope (compEnvC scope cl C X.env) fp) elt (te s H C cl fp) fe) (hy : X.N[i]? = some y := by rfl) (hyl : X.env.scope.names.lookup y = some .local := by rfl)
    (hsw : swapsWith (.ListComp elt [⟨tg, iter, ifs, 0⟩] scope pos) (some (.Name y py)) spos.line X.env = pure true := by exact sw_true rfl rfl rfl (by decide +kernel))
    (hw : ∀ i ∈ ws, i ∈ own.map (·.2) := by decide) (hlv : ∀ j, lk = some j → j ∉ own.map (·.2) := by decide) (hl : i ∉ L := by decide) (hs : ∀ x, foldedSetIterable iter X.env x = pure x := by intro _; rfl)
    (h1 : ∀ s H C cl fp, t1 s H C cl fp = t1 X.s_0 X.H_0 0 [] [] := by exact fun _ _ _ _ _ => rfl) (h2 : ∀ s H C cl fp, tt s H C cl fp = tt X.s_0 X.H_0 0 [] [] := by exact fun _ _ _ _ _ => rfl) (h3 : ∀ s H C cl fp, te s H C cl fp = te X.s_0 X.H_0 0 [] [] := by exact fun _ _ _ _ _ => rfl) :
    DS X L (.Assign [.Name y py] (.ListComp elt [⟨tg, iter, ifs, 0⟩] scope pos) spos) (tAsg (tLc wi (t1 X.s_0 X.H_0 0 [] []) (tt X.s_0 X.H_0 0 [] []) (te X.s_0 X.H_0 0 [] []) (own.map (·.2))) (gName i)) (sSetN i (eComp lk (own.map (·.2)) fi g1 fc fe)) :=
  ds_setCompN hcm hN hi ok (fun s H C cl fp => h1 s H C cl fp ▸ hg s H C cl fp) (fun s H C cl fp => h2 s H C cl fp ▸ ht s H C cl fp) (fun s H C cl fp => h3 s H C cl fp ▸ he s H C cl fp) hy hyl hsw hw hlv hl hs
theorem ds_setCompX {i : Nat} {y : Str} {py spos : Pos} (hcm : X.calm = true) (hN : X.N.Nodup) (hi : DI X lk tg iter wi fi) (ok : BlkOk X.N X.env.scope scope own)
    (hg : ∀ (s : Shared) (H : Hp) (C : Addr) (cl : List (Str × Addr)) (fp : List Addr), DG (X.blk s H scope (compEnvC scope cl C X.env) fp) [] ws tg (t1 s H C cl fp) g1) (ht : ∀ (s : Shared) (H : Hp) (C : Addr) (cl : List (Str × Addr)) (fp : List Addr), DTs (X.blk s H scope (compEnvC scope cl C X.env) fp) ifs (tt s H C cl fp) fc)
    (he : ∀ (s : Shared) (H : Hp) (C : Addr) (cl : List (Str × Addr)) (fp : List Addr), DE (X.blk s H scope (compEnvC scope cl C X.env) fp) elt (te s H C cl fp) fe) (hy : X.N[i]? = some y := by rfl) (hyl : X.env.scope.names.lookup y = some .local := by rfl)
    (hsw : swapsWith (.ListComp elt [⟨tg, iter, ifs, 0⟩] scope pos) (some (.Name y py)) spos.line X.env = pure true := by exact sw_true rfl rfl rfl (by decide +kernel))
    (hw : ∀ i ∈ ws, i ∈ own.map (·.2) := by decide) (hlv : ∀ j, lk = some j → j ∉ own.map (·.2) := by decide) (hl : i ∉ L := by decide) (hs : ∀ x, foldedSetIterable iter X.env x = pure x := by intro _; rfl)
    (h1 : ∀ s H C cl fp, t1 s H C cl fp = t1 X.s_0 X.H_0 0 [] [] := by exact fun _ _ _ _ _ => rfl) (h2 : ∀ s H C cl fp, tt s H C cl fp = tt X.s_0 X.H_0 0 [] [] := by exact fun _ _ _ _ _ => rfl) (h3 : ∀ s H C cl fp, te s H C cl fp = te X.s_0 X.H_0 0 [] [] := by exact fun _ _ _ _ _ => rfl) :
    DS X L (.Assign [.Name y py] (.ListComp elt [⟨tg, iter, ifs, 0⟩] scope pos) spos) (tAsg (tLc wi (t1 X.s_0 X.H_0 0 [] []) (tt X.s_0 X.H_0 0 [] []) (te X.s_0 X.H_0 0 [] []) (own.map (·.2))) (gName i)) (sSet i (eFrz (eComp lk (own.map (·.2)) fi g1 fc fe))) :=
  ds_setComp hcm hN hi ok (fun s H C cl fp => h1 s H C cl fp ▸ hg s H C cl fp) (fun s H C cl fp => h2 s H C cl fp ▸ ht s H C cl fp) (fun s H C cl fp => h3 s H C cl fp ▸ he s H C cl fp) hy hyl hsw hw hlv hl hs
end
end L2.Pd

namespace L2.Pd
open PySem PySem.Spec PyProof.Rows
/-! ## x[::-1] -/
section
variable {prog : Program} {w : World} {A : Around} {E : Value → Shared → Prop} {s : Shared}
theorem adjust_rev (n : Nat) : Builtin.Slice.sliceAdjust none none (-1) (n : Int) = ((n : Int) - 1, -1) := rfl
theorem places_rev (n : Nat) : Builtin.Slice.slicePlaces ((n : Int) - 1) (-1) (-1) = n := by
  unfold Builtin.Slice.slicePlaces
  have h1 : ¬ ((-1 : Int) > 0) := by decide
  rw [if_neg h1]
  have e : (- (-1) : Int) = 1 := by decide
  rw [e, Int.ediv_one]
  split <;> omega
theorem sliceApplied_rev {sl : Addr} {vk : Value} {n : Nat} {Q : Int × Int × Nat → Shared → Prop} (hs : s.heap.IsSliceOf sl .none .none vk) (ps : IsPart vk (some (-1)))
    (h : Q ((n : Int) - 1, -1, n) s) : wpAny (model prog w) A (Builtin.Slice.sliceApplied (.ref sl) (pure (n : Int))) Q E s := by
  obtain ⟨os, hos, hcs, hds⟩ := id hs
  unfold Builtin.Slice.sliceApplied Builtin.Slice.sliceFields
  refine wpAny_bind (wpAny_bind (wpAny_field hos hds (x := .none) rfl (wpAny_bind (wpAny_field hos hds (x := .none) rfl (wpAny_bind (wpAny_field hos hds (x := vk) rfl (wpAny_pure ?_)))))))
  refine wpAny_bind (HT.slicePart_ ps ?_)
  show wpAny _ _ (if ((-1 : Int) == 0) = true then _ else _) _ _ s
  rw [if_neg (by decide)]
  refine wpAny_bind (slicePart_none (wpAny_bind (slicePart_none (wpAny_bind (wpAny_pure ?_)))))
  show wpAny _ _ (match Builtin.Slice.sliceAdjust none none (-1) (n : Int) with | (lo, hi) => pure (lo, (-1 : Int), Builtin.Slice.slicePlaces lo hi (-1))) _ _ s
  rw [adjust_rev]
  show wpAny _ _ (pure ((n : Int) - 1, (-1 : Int), Builtin.Slice.slicePlaces ((n : Int) - 1) (-1) (-1))) _ _ s
  rw [places_rev]
  exact wpAny_pure h
theorem fm_congr {α β : Type} {f g : α → Option β} : ∀ {l : List α}, (∀ x ∈ l, f x = g x) → l.filterMap f = l.filterMap g
  | [], _ => rfl
  | x :: r, h => by rw [List.filterMap_cons, List.filterMap_cons, h x List.mem_cons_self, fm_congr fun y hy => h y (List.mem_cons_of_mem _ hy)]
theorem pick_rev (xs : Array Value) : ((List.range xs.size).filterMap fun (m : Nat) => xs[(((xs.size : Nat) : Int) - 1 + (m : Int) * (-1)).toNat]?).toArray = xs.toList.reverse.toArray := by
  have e : (List.range xs.size).filterMap (fun (m : Nat) => xs[(((xs.size : Nat) : Int) - 1 + (m : Int) * (-1)).toNat]?) = ((List.range xs.size).map fun k => xs.size - 1 - k).filterMap (xs[·]?) := by
    rw [List.filterMap_map]
    refine fm_congr fun m hm => ?_
    have := List.mem_range.mp hm
    show xs[(((xs.size : Nat) : Int) - 1 + (m : Int) * (-1)).toNat]? = xs[xs.size - 1 - m]?
    have : (((xs.size : Nat) : Int) - 1 + (m : Int) * (-1)).toNat = xs.size - 1 - m := by omega
    rw [this]
  rw [e, PySem.W.krv_range, List.filterMap_reverse, PySem.W.krv_all]
theorem getItem_tuple_rev {t sl : Addr} {items : Array Value} {vk : Value} {Q : Value → Shared → Prop} (ht : IsTup s.heap t items) (hs : s.heap.IsSliceOf sl .none .none vk) (ps : IsPart vk (some (-1)))
    (h : Q (.ref s.heap.objs.size) { s with heap := s.heap.push { cls := .type "tuple", data := .seq items.toList.reverse.toArray } })
    (hsz : items.size ≤ sizeLine) : wpAny (model prog w) A (getItem (.ref t) (.ref sl)) Q E s := by
  have htake : sizeOk (.seq items.toList.reverse.toArray) := by
    show items.toList.reverse.toArray.size ≤ sizeLine
    rw [List.size_toArray, List.length_reverse, Array.length_toList]
    exact hsz
  obtain ⟨os, hos, hcs, hds⟩ := id hs
  have hTs : s.TypeIs (.ref sl) "slice" := ⟨os, hos, hcs⟩
  unfold getItem
  try with_reducible refine wpAny_holding ?_
  first | refine wpAny_bind (wpAny_pure ?_) | skip
  refine wpAny_bind (wpAny_sequenceKey ht.typeIs (by decide) ?_)
  refine wpAny_bind (wpAny_callSpecial?_slot (name := Str.ofString "__getitem__") ht.typeIs PyProof.Rows.slot_tuple_getitem
    (wpAny_call_entry PyProof.Rows.slot_tuple_getitem ht.typeIs entry_tuple_getitem ?_ (args_tuple_getitem _ _)))
  show wpAny _ _ (Builtin.Tuple.tupleItemsOf (.ref t) >>= _) _ _ s
  refine wpAny_bind (tupleItemsOf_ ht ?_)
  refine wpAny_bind (wpAny_typeOf hTs ?_)
  rw [if_pos (by decide)]
  refine wpAny_bind (sliceApplied_rev hs ps ?_)
  have hno : ¬ ((((items.size : Int) - 1 == 0 && (-1 : Int) == 1 && items.size == items.size)) = true) := by
    intro q
    rw [Bool.and_eq_true, Bool.and_eq_true] at q
    exact absurd q.1.2 (by decide)
  show wpAny _ _ (if ((((items.size : Int) - 1 == 0 && (-1 : Int) == 1 && items.size == items.size)) = true) then _ else _) _ _ s
  rw [if_neg hno, pick_rev]
  first
    | exact wpAny_bind (m := Builtin.Tuple.tupleExact _) (wpAny_newObj_type (wpAny_pure ⟨_, rfl, wpAny_pure h⟩) htake)
    | exact wpAny_bind (m := Builtin.Tuple.tupleExact _) (wpAny_newObj_type (wpAny_bind (wpAny_pure (wpAny_pure ⟨_, rfl, wpAny_pure h⟩))) htake)
    | exact wpAny_bind (wpAny_bind (m := Builtin.Tuple.tupleExact _) (wpAny_newObj_type (wpAny_pure (wpAny_pure ⟨_, rfl, wpAny_pure h⟩)) htake))
    | exact wpAny_bind (wpAny_bind (m := Builtin.Tuple.tupleExact _) (wpAny_newObj_type (wpAny_pure ⟨_, rfl, wpAny_pure h⟩) htake))
end
def revS (z : Str) : Str := ⟨z.cps.reverse⟩
theorem revS_len (z : Str) : (revS z).length = z.length := by show z.cps.reverse.size = z.cps.size; rw [Array.size_reverse]
theorem indices_rev (n : Nat) : Builtin.Str.strSliceIndices none none (-1) n = (List.range n).map fun k => n - 1 - k := by
  have : Builtin.Str.strSliceIndices none none (-1) n = sliceRange ((n : Int) - 1) (-1) (-1) := rfl
  rw [this, PySem.W.krv_sliceRange]
theorem picked_rev (z : Str) : ((Builtin.Str.strSliceIndices none none (-1) z.length).filterMap (z.cps[·]?)).toArray = z.cps.reverse := by
  rw [indices_rev]
  have h : ((List.range z.cps.size).map fun k => z.cps.size - 1 - k).filterMap (z.cps[·]?) = z.cps.toList.reverse := by
    rw [PySem.W.krv_range, List.filterMap_reverse, PySem.W.krv_all]
  have h2 : ((List.range z.length).map fun k => z.length - 1 - k).filterMap (z.cps[·]?) = z.cps.toList.reverse := h
  rw [h2]
  apply Array.ext'
  simp
def rRev (K : PySem.W.Frag) : V → Hp → VK → Prop := fun x H Q => (∃ a xs, x = .ref a ∧ SqL K H a xs ∧ ∀ p, H p = none → Q (.ref p) (upd H p (.lst xs.reverse))) ∨
  (∃ a xs, x = .ref a ∧ SqT K H a xs ∧ ∀ p, H p = none → Q (.ref p) (upd H p (.tup xs.reverse))) ∨ (∃ z : Str, x = .str z ∧ z.length ≤ sizeLine ∧ Q (.str (revS z)) H)
section
variable {X : Cx} {e : Expr} {te : TE} {fe : FE} {k : Nat} {p1 p2 p3 pos : Pos}
theorem pe_rev (he : PE X e te) : PE X (.Subscript e (.Slice none none (some (.UnaryOp .USub (.Constant (.int 1) k p1) p2)) p3) pos) (tUn (rRev X.K) te) := by
  refine ⟨fun pins s σ H Q I h => ?_⟩
  refine Subscript_ (thn (he.run pins s σ H _ I h) fun v s1 ⟨x, H1, I1, r1, q1⟩ => ?_)
  have hst : PO X (some (.UnaryOp .USub (.Constant (.int 1) k p1) p2)) (tPart (tUn (rU fun i => .int (-i)) (tC (.int 1)))) := po_some (pe_un un_neg pe_int)
  refine wpAny_Slice (thn (po_none.run pins s1 σ H1 (fun o H2 => o = none ∧ H2 = H1) I1 ⟨rfl, rfl⟩) fun vl s2 ⟨l, H2, I2, pl, el, e2⟩ => ?_)
  subst el e2
  refine thn (po_none.run pins s2 σ H2 (fun o H3 => o = none ∧ H3 = H2) I2 ⟨rfl, rfl⟩) fun vu s3 ⟨u, H3, I3, pu, eu, e3⟩ => ?_
  subst eu e3
  refine thn (hst.run pins s3 σ H3 (fun o H4 => o = some (-1) ∧ H4 = H3) I3 ⟨1, rfl, -1, rfl, rfl, rfl⟩) fun vs s4 ⟨o, H4, I4, ps, eo, e4⟩ => ?_
  subst eo e4
  have I5 : Inv X pins σ H4 { s4 with heap := s4.heap.push { cls := .type "slice", data := .fields #[vl, vu, vs] } } := I4.kept (t' := s4.toks) fun b ob q => Heap.get?_push_of_some _ q
  have hso := Heap.IsSliceOf.new s4.heap vl vu vs
  cases pl
  cases pu
  rcases q1 with ⟨a, xs, ex, hx, q⟩ | ⟨a, xs, ex, hx, q⟩ | ⟨z, ex, hz, q⟩
  · subst ex
    cases r1
    obtain ⟨its, r, ht, hz⟩ := I5.list hx
    have hlen := r.length
    show wpAny (model X.prog X.w) X.A (subscriptTail e (.Slice none none (some (.UnaryOp .USub (.Constant (.int 1) k p1) p2)) p3) (.ref a) (.ref s4.heap.objs.size)) (EP X pins σ Q) X.xe { s4 with heap := s4.heap.push { cls := .type "slice", data := .fields #[.none, .none, vs] } }
    refine tail_any (ops := [.ref a, .ref s4.heap.objs.size]) ht.isList.typeIs (PySem.slot_list_getitem.lookup) ?_ (by with_unfolding_all rfl)
    refine wpAny_getItem_list_slice ht.isList hso .none .none ps (by decide) ?_ (by rw [List.size_toArray]; omega)
    rw [PySem.W.krv_pick]
    refine ⟨.ref _, _, I5.laid (t' := s4.toks) (o := .lst xs.reverse) (fun b ob q => Heap.get?_push_of_some _ q) (Nat.le_refl _) ?_, rfl, q _ (I5.hok.fresh (Nat.le_refl _))⟩
    exact ⟨by rw [List.length_reverse]; exact hz, _, 0, r.reverse, Heap.get?_push_size _ rfl⟩
  · subst ex
    cases r1
    obtain ⟨its, r, ht, hz⟩ := I5.tuple hx
    have hlen : its.toArray.size = xs.length := by rw [List.size_toArray]; exact r.length.symm
    show wpAny (model X.prog X.w) X.A (subscriptTail e (.Slice none none (some (.UnaryOp .USub (.Constant (.int 1) k p1) p2)) p3) (.ref a) (.ref s4.heap.objs.size)) (EP X pins σ Q) X.xe { s4 with heap := s4.heap.push { cls := .type "slice", data := .fields #[.none, .none, vs] } }
    refine tail_any (ops := [.ref a, .ref s4.heap.objs.size]) ht.typeIs (PyProof.Rows.slot_tuple_getitem.lookup) ?_ (by with_unfolding_all rfl)
    refine getItem_tuple_rev ht hso ps ?_ (by rw [hlen]; exact hz)
    refine ⟨.ref _, _, I5.laid (t' := s4.toks) (o := .tup xs.reverse) (fun b ob q => Heap.get?_push_of_some _ q) (Nat.le_refl _) ?_, rfl, q _ (I5.hok.fresh (Nat.le_refl _))⟩
    exact ⟨by rw [List.length_reverse]; exact hz, _, r.reverse, IsTup.new _ _⟩
  · subst ex
    obtain ⟨t, rfl⟩ := r1
    obtain ⟨c, rfl, hc⟩ := IsPart.raw ps
    show wpAny (model X.prog X.w) X.A (subscriptTail e (.Slice none none (some (.UnaryOp .USub (.Constant (.int 1) k p1) p2)) p3) (.str z t) (.ref s4.heap.objs.size)) (EP X pins σ Q) X.xe { s4 with heap := s4.heap.push { cls := .type "slice", data := .fields #[.none, .none, partValue c] } }
    refine tail_any (ops := [.str z t, .ref s4.heap.objs.size]) (typeIs_str _ _ _) F.slot_str_getitem.lookup ?_ (by with_unfolding_all rfl)
    obtain ⟨os, hos, hcs, hds⟩ := hso
    refine wpAny_getItem_str_slice (l := none) (u := none) (st := c) ⟨os, hos, hcs, hds⟩ (by rw [hc]; rfl) ?_
    unfold sliceMade slicePicked
    rw [hc]
    show Made.post (if ((-1 : Int) == 1 && (Builtin.Str.strSliceIndices none none (-1) z.length).length == z.length) = true then Made.val (.str z t)
      else Made.str ⟨((Builtin.Str.strSliceIndices none none (-1) z.length).filterMap (z.cps[·]?)).toArray⟩) (EP X pins σ Q) _
    have hno : ¬ (((-1 : Int) == 1 && (Builtin.Str.strSliceIndices none none (-1) z.length).length == z.length) = true) := by
      intro q
      rw [Bool.and_eq_true] at q
      exact absurd q.1 (by decide)
    rw [if_neg hno, picked_rev]
    exact ⟨by show (revS z).length ≤ sizeLine; rw [revS_len]; exact hz, .str _, H4, I5.tok _, ⟨_, rfl⟩, q⟩
def dRev : D → Option D
  | .list ds => some (.list ds.reverse)
  | .tuple ds => some (.tuple ds.reverse)
  | .str z => if z.length ≤ sizeLine then some (.str (revS z)) else none
  | _ => none
theorem v_rev {K : PySem.W.Frag} : Op1 K (rRev K) dRev := by
  intro F H x dx d Q s hx e k
  cases hx with
  | @lst a vs ds q1 r1 =>
    cases e
    refine .inl ⟨a, vs, rfl, s.seq q1, fun n nn => ?_⟩
    have al := Al.laid (o := .lst vs.reverse) s nn
    exact k _ _ _ al (.lst (.inl (.inl upd_same)) (dpAll_mono al.ff r1).reverse)
  | @tup a vs ds q1 r1 =>
    cases e
    refine .inr (.inl ⟨a, vs, rfl, sqT_mono s q1, fun n nn => ?_⟩)
    have al := Al.laid (o := .tup vs.reverse) s nn
    exact k _ _ _ al (.tup (.inl (.inl upd_same)) (dpAll_mono al.ff r1).reverse)
  | str z =>
    have e : (if z.length ≤ sizeLine then some (PyData.str (revS z)) else none) = some d := e
    by_cases hz : z.length ≤ sizeLine
    · rw [if_pos hz] at e; cases e
      exact .inr (.inr ⟨z, rfl, hz, k _ _ _ (Al.refl s) (.str _)⟩)
    · rw [if_neg hz] at e; cases e
  | _ => cases e
theorem de_rev (he : DE X e te fe) : DE X (.Subscript e (.Slice none none (some (.UnaryOp .USub (.Constant (.int 1) k p1) p2)) p3) pos) (tUn (rRev X.K) te) (eUn dRev fe) := ⟨pe_rev he.pe, se_un v_rev he.se⟩
def eRevN (fa : FE) : FN := fun ρ => (fa ρ).bind fun p => match p.1 with
  | .list ds => some (.ol ds.reverse, p.2)
  | _ => none
theorem dn_rev (he : DE X e te fe) : DN X (.Subscript e (.Slice none none (some (.UnaryOp .USub (.Constant (.int 1) k p1) p2)) p3) pos) (tUn (rRev X.K) te) (eRevN fe) := by
  refine ⟨pe_rev he.pe, ?_⟩
  intro B F io σ H ρ d ρ' Q c e k
  obtain ⟨p, e1, e4⟩ := Option.bind_eq_some_iff.mp e
  refine he.se B F io σ H ρ p.1 p.2 _ c e1 fun F1 H1 x g1 c1 d1 => ?_
  cases hp : p.1 with
  | list ds =>
    rw [hp] at e4 d1
    cases e4
    cases d1 with
    | @lst a vs _ q1 r1 =>
      refine .inl ⟨a, vs, rfl, c1.frz.seq q1, fun n nn => ?_⟩
      have al := Al.laidH (o := .lst vs.reverse) c1.frz nn
      exact k _ _ n _ (g1.trans (al.gr c1.base)) (c1.al al) upd_same r1.reverse (c1.frz.free nn) (c1.base.free nn) (c1.fresh_notOwned nn)
  | _ => rw [hp] at e4; cases e4
end
/-! ## ''.join(texts) -/
def strsOf : List D → Option (List Str)
  | [] => some []
  | .str z :: r => (strsOf r).map (z :: ·)
  | _ => none
theorem strsOf_dp {K : PySem.W.Frag} {F : Hp} : ∀ {ds : List D} {vs : List V} {ys : List Str}, DpAll K F vs ds → strsOf ds = some ys → vs = ys.map V.str
  | [], _, _, h, e => by cases h; cases e; rfl
  | .str z :: r, _, _, h, e => by
    obtain ⟨zs, e1, e2⟩ := Option.map_eq_some_iff.mp e
    subst e2
    cases h with
    | cons q t => cases q; rw [strsOf_dp t e1]; rfl
  | .none :: _, _, _, _, e => by cases e
  | .bool _ :: _, _, _, _, e => by cases e
  | .int _ :: _, _, _, _, e => by cases e
  | .list _ :: _, _, _, _, e => by cases e
  | .tuple _ :: _, _, _, _, e => by cases e
  | .dict _ :: _, _, _, _, e => by cases e
def joinS (a : Str) (ys : List Str) : Option D := if (ys.map (·.length)).sum + ys.length * a.length ≤ 16777216 then some (.str (Txt.join a ys)) else none
def dJoin : D → D → Option D
  | .str a, .list ds => (strsOf ds).bind (joinS a)
  | .str a, .tuple ds => (strsOf ds).bind (joinS a)
  | _, _ => none
/-! ## methods of texts -/
def strD : D → Option Str
  | .str z => some z
  | _ => none
theorem strD_eq {d : D} {z : Str} (h : strD d = some z) : d = .str z := by
  cases d <;> first | (cases h; rfl) | cases h
def OpS (K : PySem.W.Frag) (r : V → List V → Hp → VK → Prop) (g : Str → List D → Option D) : Prop := ∀ (F H : Hp) (a : Str) (xs : List V) (ds : List D) (d : D) (Q : VK), Same F H → DpAll K F xs ds → g a ds = some d →
  (∀ F' H' v, Al F H F' H' → Dp K F' v d → Q v H') → r (.str a) xs H Q
def eSM (g : Str → List D → Option D) (fo : FE) (fa : FA) : FE := fun ρ => (fo ρ).bind fun p => (strD p.1).bind fun z => (fa p.2).bind fun q => (g z q.1).map fun d => (d, q.2)
def eSM0 (g : Str → List D → Option D) (fo : FE) : FE := fun ρ => (fo ρ).bind fun p => (strD p.1).bind fun z => (g z []).map fun d => (d, p.2)
section
variable {X : Cx} {o e : Expr} {es : List Expr} {to : TE} {fo : FE} {t : TA} {fa : FA} {name : Str} {apos cpos : Pos} {id : String} {r : V → List V → Hp → VK → Prop} {g : Str → List D → Option D}
theorem de_sm (slot : Slot "str" name id) (hty : typeOf (.builtin id) = pure (.type "method_descriptor")) (hm : MtR X id r) (hg : OpS X.K r g) (ho : DE X o to fo) (ha : DA X (e :: es) t fa)
    (hbase : attributeBase o name X.env (eval o X.env) = eval o X.env := by rfl)
    (hfew : ((backTo cpos (starEach (e :: es) X.env)).all (fun x => !x.1) && (backToKw cpos (keywordEach [] X.env)).all (fun x => x.1.isSome)
      && decide ((e :: es).length + ([] : List Keyword).length + (if ([] : List Keyword).isEmpty then 0 else 1) < 30)) = true := by rfl)
    (hline : (apos.endLine == cpos.line) = true := by rfl) (hs : starEach (e :: es) X.env = (false, eval e X.env) :: starEach es X.env := by rfl) (hplain : (backTo cpos (starEach es X.env)).any (·.1) = false := by rfl) :
    DE X (.Call (.Attribute o name apos) (e :: es) [] cpos) (tBM X.K "str" r to t) (eSM g fo fa) := by
  refine ⟨pe_bm PySem.F.plainAttrs_str slot hty hm ho.pe ha.pe hbase hfew hline hs hplain, ?_⟩
  intro B F io σ H ρ d ρ' Q c h k
  obtain ⟨p, e1, h⟩ := Option.bind_eq_some_iff.mp h
  obtain ⟨z, e2, h⟩ := Option.bind_eq_some_iff.mp h
  obtain ⟨q, e3, h⟩ := Option.bind_eq_some_iff.mp h
  obtain ⟨u, e4, h⟩ := Option.map_eq_some_iff.mp h
  cases h
  refine ho.se B F io σ H ρ p.1 p.2 _ c e1 fun F1 H1 x g1 c1 d1 => ?_
  rw [strD_eq e2] at d1
  cases d1
  refine ⟨rfl, ?_⟩
  refine ha.se B F1 io σ H1 p.2 q.1 q.2 _ c1 e3 fun F2 H2 xs g2 c2 d2 => ?_
  exact hg F2 H2 z xs q.1 d Q c2.frz d2 e4 fun F3 H3 v al d3 => k F3 H3 v ((g1.trans g2).trans (al.gr c2.base)) (c2.al al) d3
theorem de_sm0 (slot : Slot "str" name id) (hty : typeOf (.builtin id) = pure (.type "method_descriptor")) (hm : MtR X id r) (hg : OpS X.K r g) (ho : DE X o to fo)
    (hbase : attributeBase o name X.env (eval o X.env) = eval o X.env := by rfl) (hline : (apos.endLine == cpos.line) = true := by rfl) :
    DE X (.Call (.Attribute o name apos) [] [] cpos) (tBM0 X.K "str" r to) (eSM0 g fo) := by
  refine ⟨pe_bm0 PySem.F.plainAttrs_str slot hty hm ho.pe hbase hline, ?_⟩
  intro B F io σ H ρ d ρ' Q c h k
  obtain ⟨p, e1, h⟩ := Option.bind_eq_some_iff.mp h
  obtain ⟨z, e2, h⟩ := Option.bind_eq_some_iff.mp h
  obtain ⟨u, e4, h⟩ := Option.map_eq_some_iff.mp h
  cases h
  refine ho.se B F io σ H ρ p.1 p.2 _ c e1 fun F1 H1 x g1 c1 d1 => ?_
  rw [strD_eq e2] at d1
  cases d1
  refine ⟨rfl, ?_⟩
  exact hg F1 H1 z [] [] d Q c1.frz .nil e4 fun F3 H3 v al d3 => k F3 H3 v (g1.trans (al.gr c1.base)) (c1.al al) d3
end
def sJoin (a : Str) : List D → Option D
  | [.list ds] => (strsOf ds).bind (joinS a)
  | [.tuple ds] => (strsOf ds).bind (joinS a)
  | _ => none
def sCount (a : Str) : List D → Option D
  | [.str b] => some (.int (Txt.count a b))
  | _ => none
def sLstrip (a : Str) : List D → Option D
  | [.str b] => if a.length ≤ sizeLine then some (.str (Txt.lstripChars a b)) else none
  | _ => none
def sStarts (a : Str) : List D → Option D
  | [.str b] => some (.bool (Txt.startswith a b))
  | _ => none
def sFind (a : Str) : List D → Option D
  | [.str b] => some (.int (Txt.find a b))
  | _ => none
def sIndex (a : Str) : List D → Option D
  | [.str b] => match Builtin.Str.occurrences a b 0 a.length 1 with
    | i :: _ => some (.int (i : Nat))
    | [] => none
  | _ => none
section
variable {K : PySem.W.Frag}
theorem s_join : OpS K (fun x xs H Q => ∃ a p, ∃ ys : List Str, x = .str a ∧ xs = [.ref p] ∧ (SqL K H p (ys.map V.str) ∨ SqT K H p (ys.map V.str)) ∧ (ys.map (·.length)).sum + ys.length * a.length ≤ 16777216 ∧ Q (.str (Txt.join a ys)) H) sJoin := by
  intro F H a xs ds d Q s h e k
  have fin : ∀ {es : List D} {vs : List V}, DpAll K F vs es → (strsOf es).bind (joinS a) = some d → ∃ ys : List Str, vs = ys.map V.str ∧ (ys.map (·.length)).sum + ys.length * a.length ≤ 16777216 ∧ Q (.str (Txt.join a ys)) H := by
    intro es vs h1 e1
    obtain ⟨ys, e2, e3⟩ := Option.bind_eq_some_iff.mp e1
    unfold joinS at e3
    by_cases hz : (ys.map (·.length)).sum + ys.length * a.length ≤ 16777216
    · rw [if_pos hz] at e3; cases e3
      exact ⟨ys, strsOf_dp h1 e2, hz, k _ _ _ (Al.refl s) (.str _)⟩
    · rw [if_neg hz] at e3; cases e3
  unfold sJoin at e
  split at e
  · cases h with
    | cons q r => cases r; cases q with
      | @lst p vs _ q1 r1 =>
        obtain ⟨ys, rfl, h1, h2⟩ := fin r1 e
        exact ⟨a, p, ys, rfl, rfl, .inl (s.seq q1), h1, h2⟩
  · cases h with
    | cons q r => cases r; cases q with
      | @tup p vs _ q1 r1 =>
        obtain ⟨ys, rfl, h1, h2⟩ := fin r1 e
        exact ⟨a, p, ys, rfl, rfl, .inr (sqT_mono s q1), h1, h2⟩
  · cases e
theorem s_count : OpS K (fun x xs H Q => ∃ a b, x = .str a ∧ xs = [.str b] ∧ Q (.int (Txt.count a b)) H) sCount := by
  intro F H a xs ds d Q s h e k
  unfold sCount at e
  split at e
  · cases e
    cases h with
    | cons q r => cases r; cases q; exact ⟨a, _, rfl, rfl, k _ _ _ (Al.refl s) (.int _)⟩
  · cases e
theorem s_find : OpS K (fun x xs H Q => ∃ a b, x = .str a ∧ xs = [.str b] ∧ Q (.int (Txt.find a b)) H) sFind := by
  intro F H a xs ds d Q s h e k
  unfold sFind at e
  split at e
  · cases e
    cases h with
    | cons q r => cases r; cases q; exact ⟨a, _, rfl, rfl, k _ _ _ (Al.refl s) (.int _)⟩
  · cases e
theorem s_starts : OpS K (fun x xs H Q => ∃ a b, x = .str a ∧ xs = [.str b] ∧ Q (.bl (Txt.startswith a b)) H) sStarts := by
  intro F H a xs ds d Q s h e k
  unfold sStarts at e
  split at e
  · cases e
    cases h with
    | cons q r => cases r; cases q; exact ⟨a, _, rfl, rfl, k _ _ _ (Al.refl s) (.bl _)⟩
  · cases e
end
/-! ## list(range(..)), tuple(range(..)) -/
abbrev FR2 := En → Option ((Int × Int) × En)
def SRg (K : PySem.W.Frag) (t : St → Hp → (Int → Int → Hp → Prop) → Prop) (f : FR2) : Prop := ∀ (B F : Hp) (io : List (Nat × Addr)) (σ : St) (H : Hp) (ρ : En) (p : Int × Int) (ρ' : En) (Q : Int → Int → Hp → Prop), Con K B F io σ H ρ → f ρ = some (p, ρ') →
  (∀ F' H', Gr B F F' → Con K B F' io σ H' ρ' → Q p.1 p.2 H') → t σ H Q
structure DRg (X : Cx) (e : Expr) (t : St → Hp → (Int → Int → Hp → Prop) → Prop) (f : FR2) : Prop where
  pe : PRg X e t
  se : SRg X.K t f
def gR1 (fa : FE) : FR2 := fun ρ => (fa ρ).bind fun p => (intD p.1).map fun n => ((0, n), p.2)
def gR2 (fa fb : FE) : FR2 := fun ρ => (fa ρ).bind fun p => (fb p.2).bind fun q => (intD p.1).bind fun m => (intD q.1).map fun n => ((m, n), q.2)
def rgOk (a b : Int) : Bool := decide (-(2 ^ 62) ≤ a ∧ a < 2 ^ 62 ∧ -(2 ^ 62) ≤ b ∧ b < 2 ^ 62 ∧ (b - a).toNat ≤ 2 ^ 24)
def eLRg (f : FR2) : FN := fun ρ => (f ρ).bind fun p => if rgOk p.1.1 p.1.2 = true then some (.ol (rngD p.1.1 (p.1.2 - p.1.1).toNat), p.2) else none
def eTRg (f : FR2) : FE := fun ρ => (f ρ).bind fun p => if rgOk p.1.1 p.1.2 = true then some (.tuple (rngD p.1.1 (p.1.2 - p.1.1).toNat), p.2) else none
theorem dpAll_rg {K : PySem.W.Frag} {F : Hp} (a b : Int) : DpAll K F (rgV a b) (rngD a (b - a).toNat) := by
  unfold rgV rngD
  generalize List.range (b - a).toNat = l
  induction l with
  | nil => exact .nil
  | cons x r ih => exact .cons (.int _) ih
section
variable {X : Cx} {a b e : Expr} {ta tb : TE} {fa fb : FE} {p pos : Pos} {te : St → Hp → (Int → Int → Hp → Prop) → Prop} {f : FR2}
theorem drg_1 (ha : DE X a ta fa) (hm : X.mg "range" = none) (hg : Gl X "range" := by rfl) (na : starEach [a] X.env = (false, eval a X.env) :: starEach [] X.env := by rfl) : DRg X (.Call (.Name "range" p) [a] [] pos) (tRg1 ta) (gR1 fa) := by
  refine ⟨prg_1 hg hm ha.pe na, ?_⟩
  intro B F io σ H ρ d ρ' Q c h k
  obtain ⟨u, e1, h⟩ := Option.bind_eq_some_iff.mp h
  obtain ⟨z, e2, h⟩ := Option.map_eq_some_iff.mp h
  cases h
  refine ha.se B F io σ H ρ u.1 u.2 _ c e1 fun F1 H1 x g1 c1 d1 => ?_
  rw [intD_eq e2] at d1
  cases d1
  exact ⟨z, rfl, k F1 H1 g1 c1⟩
theorem drg_2 (ha : DE X a ta fa) (hb : DE X b tb fb) (hm : X.mg "range" = none) (hg : Gl X "range" := by rfl) (na : starEach [a, b] X.env = (false, eval a X.env) :: starEach [b] X.env := by rfl) (nb : starEach [b] X.env = (false, eval b X.env) :: starEach [] X.env := by rfl) (hp : (backTo pos (starEach [b] X.env)).any (·.1) = false := by rfl) : DRg X (.Call (.Name "range" p) [a, b] [] pos) (tRg2 ta tb) (gR2 fa fb) := by
  refine ⟨prg_2 hg hm ha.pe hb.pe na nb hp, ?_⟩
  intro B F io σ H ρ d ρ' Q c h k
  obtain ⟨u, e1, h⟩ := Option.bind_eq_some_iff.mp h
  obtain ⟨v, e3, h⟩ := Option.bind_eq_some_iff.mp h
  obtain ⟨z, e2, h⟩ := Option.bind_eq_some_iff.mp h
  obtain ⟨y, e4, h⟩ := Option.map_eq_some_iff.mp h
  cases h
  refine ha.se B F io σ H ρ u.1 u.2 _ c e1 fun F1 H1 x g1 c1 d1 => ?_
  refine hb.se B F1 io σ H1 u.2 v.1 v.2 _ c1 e3 fun F2 H2 x2 g2 c2 d2 => ?_
  rw [intD_eq e2] at d1
  rw [intD_eq e4] at d2
  cases d1
  cases d2
  exact ⟨z, y, rfl, rfl, k F2 H2 (g1.trans g2) c2⟩
theorem dn_listRg (hc : X.calm = true) (he : DRg X e te f) (hm : X.mg "list" = none) (hg : Gl X "list" := by rfl) (na : starEach [e] X.env = (false, eval e X.env) :: starEach [] X.env := by rfl) : DN X (.Call (.Name "list" p) [e] [] pos) (tLstRg te) (eLRg f) := by
  refine ⟨pe_listRg hc hg hm he.pe na, ?_⟩
  intro B F io σ H ρ d ρ' Q c h k
  obtain ⟨u, e1, h⟩ := Option.bind_eq_some_iff.mp h
  by_cases hz : rgOk u.1.1 u.1.2 = true
  · rw [if_pos hz] at h
    cases h
    refine he.se B F io σ H ρ u.1 u.2 _ c e1 fun F1 H1 g1 c1 => ⟨by unfold rgOk at hz; rw [decide_eq_true_eq] at hz; exact hz, fun n nn => ?_⟩
    have al := Al.laidH (o := .lst (rgV u.1.1 u.1.2)) c1.frz nn
    exact k _ _ n _ (g1.trans (al.gr c1.base)) (c1.al al) upd_same (dpAll_rg _ _) (c1.frz.free nn) (c1.base.free nn) (c1.fresh_notOwned nn)
  · rw [if_neg hz] at h; cases h
theorem de_tupRg (hc : X.calm = true) (he : DRg X e te f) (hm : X.mg "tuple" = none) (hg : Gl X "tuple" := by rfl) (na : starEach [e] X.env = (false, eval e X.env) :: starEach [] X.env := by rfl) : DE X (.Call (.Name "tuple" p) [e] [] pos) (tTupRg te) (eTRg f) := by
  refine ⟨pe_tupRg hc hg hm he.pe na, ?_⟩
  intro B F io σ H ρ d ρ' Q c h k
  obtain ⟨u, e1, h⟩ := Option.bind_eq_some_iff.mp h
  by_cases hz : rgOk u.1.1 u.1.2 = true
  · rw [if_pos hz] at h
    cases h
    refine he.se B F io σ H ρ u.1 u.2 _ c e1 fun F1 H1 g1 c1 => ⟨by unfold rgOk at hz; rw [decide_eq_true_eq] at hz; exact hz, fun n nn => ?_⟩
    have al := Al.laid (o := .tup (rgV u.1.1 u.1.2)) c1.frz nn
    exact k _ _ _ (g1.trans (al.gr c1.base)) (c1.al al) (.tup (.inl (.inl upd_same)) (dpAll_rg _ _))
  · rw [if_neg hz] at h; cases h
end
end L2.Pd

namespace L2.Pd
open PySem PySem.Spec PyProof.Rows
/-! ## Reckoning: the combinators at a state -/
section
variable {i j n : Nat} {ρ : En} {d : D} {f fa fb fc : FE} {fn gn : FN} {g : D → D → Option D} {g1 : D → Option D} {gN : D → D → Option Cell} {c c2 : FT} {s s2 : FS} {a a2 : FA} {ds : List D} {h : FGs} {tg : FG} {ks : List Nat} {lk : Option Nat} {m : FnS}
@[simp] theorem ev_var : eVar i ρ = (match ρ[i]? with
  | some (.sh d) => some (d, ρ)
  | some (.ol ds) => some (.list ds, ρ.set i (.sh (.list ds)))
  | _ => none) := rfl
@[simp] theorem ev_c : eC d ρ = some (d, ρ) := rfl
@[simp] theorem ev_bin : eBin g fa fb ρ = (fa ρ).bind fun p => (fb p.2).bind fun q => (g p.1 q.1).map fun d => (d, q.2) := rfl
@[simp] theorem ev_binN : eBinN gN fa fb ρ = (fa ρ).bind fun p => (fb p.2).bind fun q => (gN p.1 q.1).map fun d => (d, q.2) := rfl
@[simp] theorem ev_un : eUn g1 fa ρ = (fa ρ).bind fun p => (g1 p.1).map fun d => (d, p.2) := rfl
@[simp] theorem ev_tst : eTst f ρ = (f ρ).bind fun p => (tstD p.1).map fun b => (b, p.2) := rfl
@[simp] theorem ev_tstD {b : Bool} : tstD (.bool b) = some b := rfl
@[simp] theorem ev_tru : eTru f ρ = (f ρ).bind fun p => (truD p.1).map fun b => (b, p.2) := rfl
@[simp] theorem ev_chain {g' : D → D → Option D} : eChain g g' fa fb fc ρ = (fa ρ).bind fun p => (fb p.2).bind fun q => ((g p.1 q.1).bind tstD).bind fun k =>
  if k = true then (fc q.2).bind fun s => (g' q.1 s.1).map fun d => (d, s.2) else some (.bool false, q.2) := rfl
@[simp] theorem ev_and : eAnd c c2 ρ = (c ρ).bind fun p => if p.1 = true then c2 p.2 else some (false, p.2) := rfl
@[simp] theorem ev_or : eOr c c2 ρ = (c ρ).bind fun p => if p.1 = true then some (true, p.2) else c2 p.2 := rfl
@[simp] theorem ev_not : eNot c ρ = (c ρ).map fun p => (!p.1, p.2) := rfl
@[simp] theorem ev_andV : eAndV fa fb ρ = (fa ρ).bind fun p => (truD p.1).bind fun k => if k = true then fb p.2 else some p := rfl
@[simp] theorem ev_orV : eOrV fa fb ρ = (fa ρ).bind fun p => (truD p.1).bind fun k => if k = true then some p else fb p.2 := rfl
@[simp] theorem ev_notV : eNotV fa ρ = (fa ρ).bind fun p => (truD p.1).map fun k => (.bool (!k), p.2) := rfl
@[simp] theorem ev_if : eIf c fa fb ρ = (c ρ).bind fun p => if p.1 = true then fa p.2 else fb p.2 := rfl
@[simp] theorem ev_ifN : eIfN c fn gn ρ = (c ρ).bind fun p => if p.1 = true then fn p.2 else gn p.2 := rfl
@[simp] theorem ev_anil : aNil ρ = some ([], ρ) := rfl
@[simp] theorem ev_acons : aCons f a ρ = (f ρ).bind fun p => (a p.2).map fun q => (p.1 :: q.1, q.2) := rfl
@[simp] theorem ev_tup : eTup a ρ = (a ρ).bind fun p => if p.1.length ≤ sizeLine then some (.tuple p.1, p.2) else none := rfl
@[simp] theorem ev_lst : eLst a ρ = (a ρ).bind fun p => if p.1.length ≤ sizeLine then some (.ol p.1, p.2) else none := rfl
@[simp] theorem ev_frz : eFrz fn ρ = (fn ρ).bind fun p => (frzC p.1).map fun d => (d, p.2) := rfl
@[simp] theorem ev_frzC : frzC (.ol ds) = some (.list ds) := rfl
@[simp] theorem ev_cb {r : List D → Option D} : eCB r a ρ = (a ρ).bind fun p => (r p.1).map fun d => (d, p.2) := rfl
@[simp] theorem ev_cbn {r : List D → Option Cell} : eCBN r a ρ = (a ρ).bind fun p => (r p.1).map fun d => (d, p.2) := rfl
@[simp] theorem ev_call0 : eCall0 m a ρ = (a ρ).bind fun p => (m (p.1.map .sh)).map fun r => (r.1, p.2) := rfl
@[simp] theorem ev_call1 {fr : FR} {i0 : Nat} : eCall1 i0 j m fr ρ = (fr ρ).bind fun p => (p.2[j]?).bind fun c => if isOwn c = true then (m (p.1.map (argC c))).bind fun r => (r.2[i0]?).map fun c' => (r.1, p.2.set j c') else none := rfl
@[simp] theorem ev_rnil : rNil ρ = some ([], ρ) := rfl
@[simp] theorem ev_rcons {r : FR} : rCons f r ρ = (f ρ).bind fun p => (r p.2).map fun q => (some p.1 :: q.1, q.2) := rfl
@[simp] theorem ev_rio {r : FR} : rIo j r ρ = if ownAt ρ j = true then (r ρ).map fun q => (none :: q.1, q.2) else none := rfl
@[simp] theorem ev_argCs {u : Cell} : argC u (some d) = .sh d := rfl
@[simp] theorem ev_argCn {u : Cell} : argC u none = u := rfl
@[simp] theorem ev_retD {k : FC} : eRetD k ρ = (k ρ).bind fun p => (cellD p.1).map fun d => (d, p.2) := rfl
@[simp] theorem ev_retN {k : FC} : eRetN k ρ = (k ρ).bind fun p => (ownC p.1).map fun c => (c, p.2) := rfl
@[simp] theorem ev_cellD : cellD (.sh d) = some d := rfl
@[simp] theorem ev_cellDl : cellD (.ol ds) = some (.list ds) := rfl
@[simp] theorem ev_ownC : ownC (.ol ds) = some (.ol ds) := rfl
@[simp] theorem ev_isOwn1 : isOwn (.ol ds) = true := rfl
@[simp] theorem ev_isOwn2 : isOwn (.sh d) = false := rfl
@[simp] theorem ev_isOwn3 : isOwn .dead = false := rfl
@[simp] theorem ev_ownAt : ownAt ρ i = (match ρ[i]? with | some c => isOwn c | none => false) := rfl
@[simp] theorem ev_seq : sSeq s s2 ρ = (s ρ).bind fun o => match o with
  | .nx ρ' => s2 ρ'
  | o => some o := rfl
@[simp] theorem ev_nx : sNx ρ = some (.nx ρ) := rfl
@[simp] theorem ev_brk : sBrk ρ = some (.bk ρ) := rfl
@[simp] theorem ev_cnt : sCnt ρ = some (.ct ρ) := rfl
@[simp] theorem ev_ret : sRet f ρ = (f ρ).map fun p => .rt (.sh p.1) p.2 := rfl
@[simp] theorem ev_retNw : sRetNew fn ρ = (fn ρ).map fun p => .rt p.1 p.2 := rfl
@[simp] theorem ev_ret0 : sRetN ρ = some (.rt (.sh .none) ρ) := rfl
@[simp] theorem ev_expr : sExpr f ρ = (f ρ).map fun p => .nx p.2 := rfl
@[simp] theorem ev_ifS : sIf c s s2 ρ = (c ρ).bind fun p => if p.1 = true then s p.2 else s2 p.2 := rfl
@[simp] theorem ev_set : sSet i f ρ = (f ρ).map fun p => .nx (p.2.set i (.sh p.1)) := rfl
@[simp] theorem ev_setN : sSetN i fn ρ = (fn ρ).map fun p => .nx (p.2.set i p.1) := rfl
@[simp] theorem ev_gnm : gNm i d ρ = some (ρ.set i (.sh d)) := rfl
@[simp] theorem ev_gnl : gNl [] ρ = some ρ := rfl
@[simp] theorem ev_gcn : gCn tg h (d :: ds) ρ = (tg d ρ).bind (h ds) := rfl
@[simp] theorem ev_gtp : gTp n h (.tuple ds) ρ = if ds.length = n then h ds ρ else none := rfl
@[simp] theorem ev_gtpl : gTp n h (.list ds) ρ = if ds.length = n then h ds ρ else none := rfl
@[simp] theorem ev_sl {fl fh : FO} : eSl f fl fh ρ = (f ρ).bind fun p => (fl p.2).bind fun l => (fh l.2).bind fun h => (dSl p.1 l.1 h.1).map fun d => (d, h.2) := rfl
@[simp] theorem ev_slN {fl fh : FO} : eSlN f fl fh ρ = (f ρ).bind fun p => (fl p.2).bind fun l => (fh l.2).bind fun h => match p.1 with
  | .list ds => some (.ol (cutD ds l.1 h.1), h.2)
  | _ => none := rfl
@[simp] theorem ev_oNone : oNone ρ = some (none, ρ) := rfl
@[simp] theorem ev_oSome : oSome f ρ = (f ρ).bind fun p => (intD p.1).map fun i => (some i, p.2) := rfl
@[simp] theorem dSl_t {lo hi : Option Int} : dSl (.tuple ds) lo hi = some (.tuple (cutD ds lo hi)) := rfl
@[simp] theorem dSl_l {lo hi : Option Int} : dSl (.list ds) lo hi = some (.list (cutD ds lo hi)) := rfl
@[simp] theorem dSl_s {lo hi : Option Int} : dSl (.str x) lo hi = if x.length ≤ sizeLine then some (.str (cutS x lo hi)) else none := rfl
@[simp] theorem dRev_l : dRev (.list ds) = some (.list ds.reverse) := rfl
@[simp] theorem dRev_t : dRev (.tuple ds) = some (.tuple ds.reverse) := rfl
@[simp] theorem dRev_s : dRev (.str x) = if x.length ≤ sizeLine then some (.str (revS x)) else none := rfl
@[simp] theorem ev_revN : eRevN f ρ = (f ρ).bind fun p => match p.1 with
  | .list ds => some (.ol ds.reverse, p.2)
  | _ => none := rfl
@[simp] theorem ev_sm {r : Str → List D → Option D} : eSM r f a ρ = (f ρ).bind fun p => (strD p.1).bind fun z => (a p.2).bind fun q => (r z q.1).map fun d => (d, q.2) := rfl
@[simp] theorem ev_sm0 {r : Str → List D → Option D} : eSM0 r f ρ = (f ρ).bind fun p => (strD p.1).bind fun z => (r z []).map fun d => (d, p.2) := rfl
@[simp] theorem ev_strD : strD (.str x) = some x := rfl
@[simp] theorem ev_lrg {r : FR2} : eLRg r ρ = (r ρ).bind fun p => if rgOk p.1.1 p.1.2 = true then some (.ol (rngD p.1.1 (p.1.2 - p.1.1).toNat), p.2) else none := rfl
@[simp] theorem ev_trg {r : FR2} : eTRg r ρ = (r ρ).bind fun p => if rgOk p.1.1 p.1.2 = true then some (.tuple (rngD p.1.1 (p.1.2 - p.1.1).toNat), p.2) else none := rfl
@[simp] theorem ev_gr1 : gR1 f ρ = (f ρ).bind fun p => (intD p.1).map fun n => ((0, n), p.2) := rfl
@[simp] theorem ev_gr2 : gR2 fa fb ρ = (fa ρ).bind fun p => (fb p.2).bind fun q => (intD p.1).bind fun m => (intD q.1).map fun n => ((m, n), q.2) := rfl
@[simp] theorem ev_tupL : cTuple [.list ds] = some (.tuple ds) := rfl
@[simp] theorem ev_tupT : cTuple [.tuple ds] = some (.tuple ds) := rfl
@[simp] theorem ev_iaddS : dIadd (.str x) (.str y) = if x.length + y.length ≤ sizeLine then some (.str (x ++ y)) else none := rfl
@[simp] theorem ev_asg : sAsg f tg ρ = (f ρ).bind fun p => (tg p.1 p.2).map .nx := rfl
@[simp] theorem ev_par : sPar i j a ρ = (a ρ).bind fun p => match p.1 with
  | [d, e] => some (.nx ((p.2.set i (.sh d)).set j (.sh e)))
  | _ => none := rfl
@[simp] theorem ev_aug : sAug i g f ρ = (match ρ[i]? with
  | some (.sh d) => (f ρ).bind fun p => (g d p.1).map fun z => .nx (p.2.set i (.sh z))
  | _ => none) := rfl
@[simp] theorem ev_ownL : ownL j ρ = (match ρ[j]? with
  | some (.ol ds) => some ds
  | _ => none) := rfl
@[simp] theorem ev_item {fi fe : FE} : sItem j fi fe ρ = (fe ρ).bind fun p => (ownL j p.2).bind fun _ => (fi p.2).bind fun q => (ownL j q.2).bind fun ds => (intD q.1).bind fun k => (ixN ds.length k).map fun n => .nx (q.2.set j (.ol (ds.set n p.1))) := rfl
@[simp] theorem ev_meth {r : List D → List D → Option (D × List D)} : eMeth j r a ρ = (ownL j ρ).bind fun _ => (a ρ).bind fun p => (ownL j p.2).bind fun ds => (r ds p.1).map fun z => (z.1, p.2.set j (.ol z.2)) := rfl
@[simp] theorem ev_meth0 {r : List D → List D → Option (D × List D)} : eMeth0 j r ρ = (ownL j ρ).bind fun ds => (r ds []).map fun z => (z.1, ρ.set j (.ol z.2)) := rfl
@[simp] theorem ev_for {it : FA} : sFor lk ks it tg s ρ = (it ρ).bind fun p => loopF lk p.1 ks (fun x ρ => (tg x ρ).bind s) p.1 p.2 := rfl
@[simp] theorem ev_isq : iSq f ρ = (f ρ).bind fun p => match p.1 with
  | .list ds => some (ds, p.2)
  | .tuple ds => some (ds, p.2)
  | .str x => some (signsD x, p.2)
  | _ => none := rfl
@[simp] theorem ev_iown : iOwn j ρ = (ownL j ρ).map fun ds => (ds, ρ) := rfl
@[simp] theorem ev_ixOwn {fi : FE} : eIxOwn j fi ρ = (ownL j ρ).bind fun _ => (fi ρ).bind fun q => (ownL j q.2).bind fun ds => (intD q.1).bind fun k => (atI ds k).map fun d => (d, q.2) := rfl
@[simp] theorem ev_lenOwn : eLenOwn j ρ = (ownL j ρ).map fun ds => (.int ds.length, ρ) := rfl
@[simp] theorem ev_intD {z : Int} : intD (.int z) = some z := rfl
@[simp] theorem ev_isi {T : String} : eIsi T f ρ = (f ρ).bind fun p => (kitB (tyN p.1) T).map fun b => (.bool b, p.2) := rfl
@[simp] theorem ev_killn : killL [] ρ = ρ := rfl
@[simp] theorem ev_killc : killL (i :: ks) ρ = killL ks (ρ.set i .dead) := rfl
@[simp] theorem ev_lockn : lockOk none ds ρ = true := rfl
@[simp] theorem ev_cyes : cYes ρ = some (true, ρ) := rfl
end
section
variable {a b : Int} {x y : Str} {ds es : List D}
@[simp] theorem ev_addI : dAddA (.int a) (.int b) = some (.int (a + b)) := rfl
@[simp] theorem ev_addT : dAddA (.tuple ds) (.tuple es) = if ds.length + es.length ≤ sizeLine then some (.tuple (ds ++ es)) else none := rfl
@[simp] theorem ev_addS : dAddA (.str x) (.str y) = if x.length + y.length ≤ sizeLine then some (.str (x ++ y)) else none := rfl
@[simp] theorem ev_addL : dAddA (.list ds) (.list es) = if ds.length + es.length ≤ sizeLine then some (.list (ds ++ es)) else none := rfl
@[simp] theorem ev_iaddI : dIadd (.int a) (.int b) = some (.int (a + b)) := rfl
@[simp] theorem ev_sub : dSub (.int a) (.int b) = some (.int (a - b)) := rfl
@[simp] theorem ev_mul : dMul (.int a) (.int b) = if mulOk a b = true then some (.int (a * b)) else none := rfl
@[simp] theorem ev_fdiv : dFdiv (.int a) (.int b) = if b ≠ 0 ∧ Builtin.divisionGoesByPylong a b = false then some (.int (a.fdiv b)) else none := rfl
@[simp] theorem ev_mod : dMod (.int a) (.int b) = if b ≠ 0 then some (.int (a.fmod b)) else none := rfl
@[simp] theorem ev_neg : dNeg (.int a) = some (.int (-a)) := rfl
@[simp] theorem ev_gtI : bGt (.int a) (.int b) = some (decide (a > b)) := rfl
@[simp] theorem ev_ltI : bLt (.int a) (.int b) = some (decide (a < b)) := rfl
@[simp] theorem ev_geI : bGe (.int a) (.int b) = some (decide (a ≥ b)) := rfl
@[simp] theorem ev_leI : bLe (.int a) (.int b) = some (decide (a ≤ b)) := rfl
theorem ev_eq {d e : D} (h : okD d = true) (h2 : okD e = true) : bEq d e = some (PyData.eqv d e) := by unfold bEq; rw [h, h2]; rfl
@[simp] theorem ev_abs : cAbs [.int a] = some (.int (if a < 0 then -a else a)) := rfl
@[simp] theorem ev_int : cInt [.int a] = some (.int a) := rfl
@[simp] theorem ev_intB {k : Bool} : cInt [.bool k] = some (.int (if k then 1 else 0)) := rfl
@[simp] theorem ev_max2 : cMax2 [.int a, .int b] = some (.int (if b > a then b else a)) := rfl
@[simp] theorem ev_min2 : cMin2 [.int a, .int b] = some (.int (if b < a then b else a)) := rfl
@[simp] theorem ev_ixT : dIx (.tuple ds) (.int a) = atI ds a := rfl
@[simp] theorem ev_ixL : dIx (.list ds) (.int a) = atI ds a := rfl
@[simp] theorem ev_truB {k : Bool} : truD (.bool k) = some k := rfl
end
/-! ### equality of data -/
section
variable {a b : Int} {p q : Bool} {x y : Str} {d e : D} {ds es : List D}
theorem ev_okD : okD d = (d.canLay0 && decide (d.depth ≤ 64)) := rfl
@[simp] theorem ev_eqI : bEq (.int a) (.int b) = some (a == b) := rfl
@[simp] theorem ev_neI : bNe (.int a) (.int b) = some (!(a == b)) := rfl
@[simp] theorem ev_eqB : bEq (.bool p) (.bool q) = some (p == q) := rfl
@[simp] theorem ev_eqNN : bEq .none .none = some true := rfl
@[simp] theorem cl_int : (PyData.int a).canLay0 = true := rfl
@[simp] theorem cl_bool : (PyData.bool p).canLay0 = true := rfl
@[simp] theorem cl_none : PyData.none.canLay0 = true := rfl
@[simp] theorem cl_str : (PyData.str x).canLay0 = PyData.strOk x := rfl
@[simp] theorem cl_tup : (PyData.tuple ds).canLay0 = PyData.canLayAll0 ds := rfl
@[simp] theorem cl_lst : (PyData.list ds).canLay0 = PyData.canLayAll0 ds := rfl
@[simp] theorem cl_nil : PyData.canLayAll0 [] = true := rfl
@[simp] theorem cl_cons : PyData.canLayAll0 (d :: ds) = (d.canLay0 && PyData.canLayAll0 ds) := rfl
@[simp] theorem dp_int' : (PyData.int a).depth = 0 := rfl
@[simp] theorem dp_bool' : (PyData.bool p).depth = 0 := rfl
@[simp] theorem dp_none' : PyData.none.depth = 0 := rfl
@[simp] theorem dp_str' : (PyData.str x).depth = 0 := rfl
@[simp] theorem dp_tup' : (PyData.tuple ds).depth = PyData.depthAll ds + 1 := rfl
@[simp] theorem dp_lst' : (PyData.list ds).depth = PyData.depthAll ds + 1 := rfl
@[simp] theorem dp_nil' : PyData.depthAll [] = 0 := rfl
@[simp] theorem dp_cons' : PyData.depthAll (d :: ds) = max d.depth (PyData.depthAll ds) := rfl
@[simp] theorem eqv_II : PyData.eqv (.int a) (.int b) = (a == b) := rfl
@[simp] theorem eqv_TT : PyData.eqv (.tuple ds) (.tuple es) = PyData.eqvAll ds es := rfl
@[simp] theorem eqv_LL : PyData.eqv (.list ds) (.list es) = PyData.eqvAll ds es := rfl
@[simp] theorem eqv_SS : PyData.eqv (.str x) (.str y) = (x == y) := rfl
@[simp] theorem eqv_NN : PyData.eqv .none .none = true := rfl
@[simp] theorem eqv_BB : PyData.eqv (.bool p) (.bool q) = (p == q) := rfl
@[simp] theorem eqv_nn : PyData.eqvAll [] [] = true := rfl
@[simp] theorem eqv_cc : PyData.eqvAll (d :: ds) (e :: es) = (PyData.eqv d e && PyData.eqvAll ds es) := rfl
@[simp] theorem eqv_nc : PyData.eqvAll [] (e :: es) = false := rfl
@[simp] theorem eqv_cn : PyData.eqvAll (d :: ds) [] = false := rfl
theorem ev_eqR (h : okD d = true) : bEq d d = some true := by
  rw [ev_eq h h, SeqAt.eqv_refl d (by rw [ev_okD, Bool.and_eq_true] at h; exact h.1)]
theorem ev_neR (h : okD d = true) : bNe d d = some false := by
  unfold bNe
  rw [h, SeqAt.eqv_refl d (by rw [ev_okD, Bool.and_eq_true] at h; exact h.1)]
  rfl
@[simp] theorem ev_isn : bIsN d .none = some (isNone d) := rfl
@[simp] theorem ev_nisn : bNotN d .none = some (!isNone d) := rfl
@[simp] theorem nn_i : isNone (.int a) = false := rfl
@[simp] theorem nn_t : isNone (.tuple ds) = false := rfl
@[simp] theorem nn_s : isNone (.str x) = false := rfl
@[simp] theorem nn_n : isNone .none = true := rfl
@[simp] theorem nn_b : isNone (.bool p) = false := rfl
@[simp] theorem nn_l : isNone (.list ds) = false := rfl
@[simp] theorem atI0 {α : Type} {u : α} {r : List α} : atI (u :: r) 0 = some u := atI_nat (j := 0) rfl
@[simp] theorem atI1 {α : Type} {u v : α} {r : List α} : atI (u :: v :: r) 1 = some v := atI_nat (j := 1) rfl
@[simp] theorem atI2 {α : Type} {u v w : α} {r : List α} : atI (u :: v :: w :: r) 2 = some w := atI_nat (j := 2) rfl
@[simp] theorem atI3 {α : Type} {u v w z : α} {r : List α} : atI (u :: v :: w :: z :: r) 3 = some z := atI_nat (j := 3) rfl
@[simp] theorem cLen_l : cLen [.list ds] = some (.int ds.length) := rfl
@[simp] theorem cLen_s : cLen [.str x] = if x.length ≤ sizeLine then some (.int x.length) else none := rfl
@[simp] theorem cLen_t : cLen [.tuple ds] = some (.int ds.length) := rfl
end
/-! ### isinstance -/
@[simp] theorem kit_int_bool {a : Int} : kitB (tyN (.int a)) "bool" = some false := by show kitB "int" "bool" = _; decide +kernel
@[simp] theorem kit_int_int {a : Int} : kitB (tyN (.int a)) "int" = some true := by show kitB "int" "int" = _; decide +kernel
@[simp] theorem kit_int_str {a : Int} : kitB (tyN (.int a)) "str" = some false := by show kitB "int" "str" = _; decide +kernel
@[simp] theorem kit_int_tuple {a : Int} : kitB (tyN (.int a)) "tuple" = some false := by show kitB "int" "tuple" = _; decide +kernel
@[simp] theorem kit_int_list {a : Int} : kitB (tyN (.int a)) "list" = some false := by show kitB "int" "list" = _; decide +kernel
@[simp] theorem kit_bool_bool {a : Bool} : kitB (tyN (.bool a)) "bool" = some true := by show kitB "bool" "bool" = _; decide +kernel
@[simp] theorem kit_bool_int {a : Bool} : kitB (tyN (.bool a)) "int" = some true := by show kitB "bool" "int" = _; decide +kernel
@[simp] theorem kit_bool_str {a : Bool} : kitB (tyN (.bool a)) "str" = some false := by show kitB "bool" "str" = _; decide +kernel
@[simp] theorem kit_bool_tuple {a : Bool} : kitB (tyN (.bool a)) "tuple" = some false := by show kitB "bool" "tuple" = _; decide +kernel
@[simp] theorem kit_bool_list {a : Bool} : kitB (tyN (.bool a)) "list" = some false := by show kitB "bool" "list" = _; decide +kernel
@[simp] theorem kit_str_bool {a : Str} : kitB (tyN (.str a)) "bool" = some false := by show kitB "str" "bool" = _; decide +kernel
@[simp] theorem kit_str_int {a : Str} : kitB (tyN (.str a)) "int" = some false := by show kitB "str" "int" = _; decide +kernel
@[simp] theorem kit_str_str {a : Str} : kitB (tyN (.str a)) "str" = some true := by show kitB "str" "str" = _; decide +kernel
@[simp] theorem kit_str_tuple {a : Str} : kitB (tyN (.str a)) "tuple" = some false := by show kitB "str" "tuple" = _; decide +kernel
@[simp] theorem kit_str_list {a : Str} : kitB (tyN (.str a)) "list" = some false := by show kitB "str" "list" = _; decide +kernel
@[simp] theorem kit_tup_bool {a : List D} : kitB (tyN (.tuple a)) "bool" = some false := by show kitB "tuple" "bool" = _; decide +kernel
@[simp] theorem kit_tup_int {a : List D} : kitB (tyN (.tuple a)) "int" = some false := by show kitB "tuple" "int" = _; decide +kernel
@[simp] theorem kit_tup_str {a : List D} : kitB (tyN (.tuple a)) "str" = some false := by show kitB "tuple" "str" = _; decide +kernel
@[simp] theorem kit_tup_tuple {a : List D} : kitB (tyN (.tuple a)) "tuple" = some true := by show kitB "tuple" "tuple" = _; decide +kernel
@[simp] theorem kit_tup_list {a : List D} : kitB (tyN (.tuple a)) "list" = some false := by show kitB "tuple" "list" = _; decide +kernel
@[simp] theorem kit_non_bool  : kitB (tyN .none) "bool" = some false := by show kitB "NoneType" "bool" = _; decide +kernel
@[simp] theorem kit_non_int  : kitB (tyN .none) "int" = some false := by show kitB "NoneType" "int" = _; decide +kernel
@[simp] theorem kit_non_str  : kitB (tyN .none) "str" = some false := by show kitB "NoneType" "str" = _; decide +kernel
@[simp] theorem kit_non_tuple  : kitB (tyN .none) "tuple" = some false := by show kitB "NoneType" "tuple" = _; decide +kernel
@[simp] theorem kit_non_list  : kitB (tyN .none) "list" = some false := by show kitB "NoneType" "list" = _; decide +kernel
@[simp] theorem kit_lst_bool {a : List D} : kitB (tyN (.list a)) "bool" = some false := by show kitB "list" "bool" = _; decide +kernel
@[simp] theorem kit_lst_int {a : List D} : kitB (tyN (.list a)) "int" = some false := by show kitB "list" "int" = _; decide +kernel
@[simp] theorem kit_lst_str {a : List D} : kitB (tyN (.list a)) "str" = some false := by show kitB "list" "str" = _; decide +kernel
@[simp] theorem kit_lst_tuple {a : List D} : kitB (tyN (.list a)) "tuple" = some false := by show kitB "list" "tuple" = _; decide +kernel
@[simp] theorem kit_lst_list {a : List D} : kitB (tyN (.list a)) "list" = some true := by show kitB "list" "list" = _; decide +kernel
/-! ### a def's call -/
theorem fn_ret {n : Nat} {s : FS} {cs : List Cell} {c : Cell} {ρ' : En} (h : s (cs ++ List.replicate (n - cs.length) .dead) = some (.rt c ρ')) : fnSem n [] s cs = some (c, []) := by
  unfold fnSem
  rw [h]
  rfl
theorem fn_nx {n : Nat} {s : FS} {cs : List Cell} {ρ' : En} (h : s (cs ++ List.replicate (n - cs.length) .dead) = some (.nx ρ')) : fnSem n [] s cs = some (.sh .none, []) := by
  unfold fnSem
  rw [h]
  rfl
theorem fn_io {n : Nat} {ios : List Nat} {s : FS} {cs : List Cell} {c : Cell} {ρ' : En} (h : s (cs ++ List.replicate (n - cs.length) .dead) = some (.rt c ρ')) (hall : ios.all (ownAt ρ') = true) : fnSem n ios s cs = some (c, ρ'.take (keepN ios cs.length)) := by
  unfold fnSem
  rw [h]
  show (if ios.all (ownAt ρ') = true then _ else _) = _
  rw [if_pos hall]
/-! ### ints as data -/
def is (ns : List Int) : List D := ns.map .int
@[simp] theorem is_nil : is [] = [] := rfl
@[simp] theorem is_cons {n : Int} {ns : List Int} : is (n :: ns) = .int n :: is ns := rfl
@[simp] theorem is_len {ns : List Int} : (is ns).length = ns.length := List.length_map _
@[simp] theorem is_app {ns ms : List Int} : is (ns ++ ms) = is ns ++ is ms := List.map_append
theorem is_snoc {ns : List Int} {z : Int} : is ns ++ [.int z] = is (ns ++ [z]) := by simp
theorem is_get {ns : List Int} {i : Nat} : (is ns)[i]? = (ns[i]?).map .int := List.getElem?_map
theorem is_set {ns : List Int} {i : Nat} {n : Int} : (is ns).set i (.int n) = is (ns.set i n) := by unfold is; rw [List.map_set]
theorem is_dl {ns : List Int} : (is ns).dropLast = is ns.dropLast := by unfold is; rw [List.map_dropLast]
theorem is_rev {ns : List Int} : (is ns).reverse = is ns.reverse := by unfold is; rw [List.map_reverse]
theorem atI_in {α : Type} {xs : List α} {i : Int} {x : α} (h0 : 0 ≤ i) (h : xs[i.toNat]? = some x) : atI xs i = some x := by
  obtain ⟨n, rfl⟩ := Int.eq_ofNat_of_zero_le h0
  exact atI_nat h
theorem ixN_in {n : Nat} {i : Int} (h0 : 0 ≤ i) (h : i < n) : ixN n i = some i.toNat := by
  unfold ixN
  rw [if_pos h0, if_pos h]
theorem seq_nx {s s2 : FS} {ρ ρ1 : En} (h : s ρ = some (.nx ρ1)) : sSeq s s2 ρ = s2 ρ1 := by rw [ev_seq, h]; rfl
theorem seq_rt {s s2 : FS} {ρ ρ1 : En} {c : Cell} (h : s ρ = some (.rt c ρ1)) : sSeq s s2 ρ = some (.rt c ρ1) := by rw [ev_seq, h]; rfl
theorem seq_bk {s s2 : FS} {ρ ρ1 : En} (h : s ρ = some (.bk ρ1)) : sSeq s s2 ρ = some (.bk ρ1) := by rw [ev_seq, h]; rfl
theorem seq_ct {s s2 : FS} {ρ ρ1 : En} (h : s ρ = some (.ct ρ1)) : sSeq s s2 ρ = some (.ct ρ1) := by rw [ev_seq, h]; rfl
theorem set_nx {i : Nat} {f : FE} {ρ ρ1 : En} {d : D} (h : f ρ = some (d, ρ1)) : sSet i f ρ = some (.nx (ρ1.set i (.sh d))) := by rw [ev_set, h]; rfl
theorem setN_nx {i : Nat} {f : FN} {ρ ρ1 : En} {c : Cell} (h : f ρ = some (c, ρ1)) : sSetN i f ρ = some (.nx (ρ1.set i c)) := by rw [ev_setN, h]; rfl
theorem if_t {c : FT} {s s2 : FS} {ρ ρ1 : En} (h : c ρ = some (true, ρ1)) : sIf c s s2 ρ = s ρ1 := by rw [ev_ifS, h]; rfl
theorem if_f {c : FT} {s s2 : FS} {ρ ρ1 : En} (h : c ρ = some (false, ρ1)) : sIf c s s2 ρ = s2 ρ1 := by rw [ev_ifS, h]; rfl
theorem ret_nx {f : FE} {ρ ρ1 : En} {d : D} (h : f ρ = some (d, ρ1)) : sRet f ρ = some (.rt (.sh d) ρ1) := by rw [ev_ret, h]; rfl
theorem ev_r1 {a : FA} {ρ ρ1 : En} {n : Int} (h : a ρ = some ([.int n], ρ1)) (h0 : 0 ≤ n) (h1 : n < 4611686018427387904) : iR1 a ρ = some ((List.range n.toNat).map (fun k : Nat => PyData.int (k : Int)), ρ1) := by
  unfold iR1
  rw [h]
  show (if -(2 ^ 62) ≤ n ∧ n < 2 ^ 62 then _ else none) = _
  rw [if_pos ⟨by omega, by omega⟩]
  unfold rngD
  simp
theorem ev_r2 {a : FA} {ρ ρ1 : En} {m n : Int} (h : a ρ = some ([.int m, .int n], ρ1)) (h0 : 0 ≤ m) (h1 : n < 4611686018427387904) (h2 : m < 4611686018427387904) (h3 : 0 ≤ n) : iR2 a ρ = some ((List.range (n - m).toNat).map (fun k : Nat => PyData.int (m + (k : Int))), ρ1) := by
  unfold iR2
  rw [h]
  show (if -(2 ^ 62) ≤ m ∧ m < 2 ^ 62 ∧ -(2 ^ 62) ≤ n ∧ n < 2 ^ 62 then _ else none) = _
  rw [if_pos ⟨by omega, by omega, by omega, by omega⟩]
  rfl
theorem for_nx {it : FA} {tg : FG} {s : FS} {ks : List Nat} {lk : Option Nat} {ρ ρ1 : En} {xs : List D} {o : Option Out} (h : it ρ = some (xs, ρ1)) (h2 : loopF lk xs ks (fun x ρ => (tg x ρ).bind s) xs ρ1 = o) : sFor lk ks it tg s ρ = o := by rw [ev_for, h]; exact h2
theorem mulOk_l {a b : Int} (h : a.natAbs < 18446744073709551616) : mulOk a b = true := by simp [mulOk]; exact .inl (.inl (by omega))
theorem mulOk_r {a b : Int} (h : b.natAbs < 18446744073709551616) : mulOk a b = true := by simp [mulOk]; exact .inl (.inr (by omega))
theorem fmod_abs {a b : Int} (h : 0 < b) : (a.fmod b).natAbs < b.natAbs := by
  have := Int.fmod_nonneg_of_pos a h
  have := Int.fmod_lt_of_pos a h
  omega
/-! ### lending -/
section
variable {i j : Nat} {ρ ρ' : En} {f : FE} {c : Cell} {d e : D} {ds : List D} {ns : List Int}
@[simp] theorem ev_bor : eBor j f ρ = (ownL j ρ).bind fun ds => (f (ρ.set j (.sh (.list ds)))).bind fun p => if noL p.1 = true then (lendB j ds ρ p.2).map fun ρ' => (p.1, ρ') else none := rfl
@[simp] theorem ev_borT {f : FT} : eBorT j f ρ = (ownL j ρ).bind fun ds => (f (ρ.set j (.sh (.list ds)))).bind fun p => (lendB j ds ρ p.2).map fun ρ' => (p.1, ρ') := rfl
@[simp] theorem ev_borN {f : FN} : eBorN j f ρ = (ownL j ρ).bind fun ds => (f (ρ.set j (.sh (.list ds)))).bind fun p => if noLC p.1 = true then (lendB j ds ρ p.2).map fun ρ' => (p.1, ρ') else none := rfl
@[simp] theorem ev_lendB : lendB j ds ρ ρ' = if lentOk (ρ'.set j .dead) ρ = true then some (ρ'.set j (.ol ds)) else none := rfl
@[simp] theorem lent_nil : lentOk [] ρ = true := rfl
@[simp] theorem lent_cons {s : Cell} : lentOk (c :: ρ') (s :: ρ) = ((noLC c || (match c, s :: ρ with | .sh d, .sh e :: _ => beqD d e | _, _ => false)) && lentOk ρ' ρ) := rfl
@[simp] theorem noLC_dead : noLC .dead = true := rfl
@[simp] theorem noLC_sh : noLC (.sh d) = noL d := rfl
@[simp] theorem noLC_ol : noLC (.ol ds) = noLs ds := rfl
@[simp] theorem noL_int {z : Int} : noL (.int z) = true := rfl
@[simp] theorem noL_bool {z : Bool} : noL (.bool z) = true := rfl
@[simp] theorem noL_str {z : Str} : noL (.str z) = true := rfl
@[simp] theorem noL_none : noL .none = true := rfl
@[simp] theorem noL_tup : noL (.tuple ds) = noLs ds := rfl
@[simp] theorem noL_lst : noL (.list ds) = false := rfl
@[simp] theorem noLs_nil : noLs [] = true := rfl
@[simp] theorem noLs_cons : noLs (d :: ds) = (noL d && noLs ds) := rfl
@[simp] theorem noLs_is : noLs (is ns) = true := by
  induction ns with
  | nil => rfl
  | cons n r ih => simp [ih]
@[simp] theorem beqDs_is : beqDs (is ns) (is ns) = true := by
  induction ns with
  | nil => rfl
  | cons n r ih => simp [beqDs, beqD, ih]
@[simp] theorem beqD_lst {es : List D} : beqD (.list ds) (.list es) = beqDs ds es := rfl
end
/-! ### loops -/
theorem loop_cons {lk : Option Nat} {xs0 : List D} {ks : List Nat} {b : D → En → Option Out} {x : D} {r : List D} {ρ ρ' : En} (hl : lockOk lk xs0 (killL ks ρ) = true) (h : b x (killL ks ρ) = some (.nx ρ')) : loopF lk xs0 ks b (x :: r) ρ = loopF lk xs0 ks b r ρ' := by
  conv => lhs; unfold loopF
  rw [if_pos hl, h]
  rfl
theorem loop_cont {lk : Option Nat} {xs0 : List D} {ks : List Nat} {b : D → En → Option Out} {x : D} {r : List D} {ρ ρ' : En} (hl : lockOk lk xs0 (killL ks ρ) = true) (h : b x (killL ks ρ) = some (.ct ρ')) : loopF lk xs0 ks b (x :: r) ρ = loopF lk xs0 ks b r ρ' := by
  conv => lhs; unfold loopF
  rw [if_pos hl, h]
  rfl
theorem loop_brk {lk : Option Nat} {xs0 : List D} {ks : List Nat} {b : D → En → Option Out} {x : D} {r : List D} {ρ ρ' : En} (hl : lockOk lk xs0 (killL ks ρ) = true) (h : b x (killL ks ρ) = some (.bk ρ')) : loopF lk xs0 ks b (x :: r) ρ = some (.nx (killL ks ρ')) := by
  conv => lhs; unfold loopF
  rw [if_pos hl, h]
  rfl
theorem loop_rt {lk : Option Nat} {xs0 : List D} {ks : List Nat} {b : D → En → Option Out} {x : D} {r : List D} {ρ ρ' : En} {c : Cell} (hl : lockOk lk xs0 (killL ks ρ) = true) (h : b x (killL ks ρ) = some (.rt c ρ')) : loopF lk xs0 ks b (x :: r) ρ = some (.rt c ρ') := by
  conv => lhs; unfold loopF
  rw [if_pos hl, h]
  rfl
theorem loop_nil {lk : Option Nat} {xs0 : List D} {ks : List Nat} {b : D → En → Option Out} {ρ : En} (hl : lockOk lk xs0 (killL ks ρ) = true) : loopF lk xs0 ks b [] ρ = some (.nx (killL ks ρ)) := by
  unfold loopF
  rw [if_pos hl]
/-- a loop without a lock by an invariant of the states at its head -/
theorem loop_inv {xs0 : List D} {ks : List Nat} {b : D → En → Option Out} (P : List D → En → Prop) (hstep : ∀ x r ρ, P (x :: r) (killL ks ρ) → ∃ ρ', (b x (killL ks ρ) = some (.nx ρ') ∨ b x (killL ks ρ) = some (.ct ρ')) ∧ P r (killL ks ρ')) :
    ∀ (xs : List D) (ρ : En), P xs (killL ks ρ) → ∃ ρ', loopF none xs0 ks b xs ρ = some (.nx ρ') ∧ P [] ρ' := by
  intro xs
  induction xs with
  | nil => exact fun ρ h => ⟨_, loop_nil rfl, h⟩
  | cons x r ih =>
    intro ρ h
    obtain ⟨ρ', h1, h2⟩ := hstep x r ρ h
    obtain ⟨ρ2, h3, h4⟩ := ih ρ' h2
    refine ⟨ρ2, ?_, h4⟩
    rcases h1 with h1 | h1
    · rw [loop_cons rfl h1, h3]
    · rw [loop_cont rfl h1, h3]
/-- the piece goes on, and then .. -/
def nxt (o : Option Out) (Q : En → Prop) : Prop := match o with
  | some (.nx ρ) => Q ρ
  | some (.ct ρ) => Q ρ
  | _ => False
@[simp] theorem nxt_nx {ρ : En} {Q : En → Prop} : nxt (some (.nx ρ)) Q = Q ρ := rfl
@[simp] theorem nxt_ct {ρ : En} {Q : En → Prop} : nxt (some (.ct ρ)) Q = Q ρ := rfl
theorem nxt_elim {o : Option Out} {Q : En → Prop} (h : nxt o Q) : ∃ ρ, (o = some (.nx ρ) ∨ o = some (.ct ρ)) ∧ Q ρ := by
  unfold nxt at h
  split at h
  · exact ⟨_, .inl rfl, h⟩
  · exact ⟨_, .inr rfl, h⟩
  · exact h.elim
/-- the same over typed items -/
theorem loop_invA {α : Type} (inj : α → D) {xs0 : List D} {ks : List Nat} {b : D → En → Option Out} (P : List α → En → Prop) (hstep : ∀ y r ρ, P (y :: r) (killL ks ρ) → ∃ ρ', (b (inj y) (killL ks ρ) = some (.nx ρ') ∨ b (inj y) (killL ks ρ) = some (.ct ρ')) ∧ P r (killL ks ρ')) :
    ∀ (ys : List α) (ρ : En), P ys (killL ks ρ) → ∃ ρ', loopF none xs0 ks b (ys.map inj) ρ = some (.nx ρ') ∧ P [] ρ' := by
  intro ys
  induction ys with
  | nil => exact fun ρ h => ⟨_, loop_nil rfl, h⟩
  | cons y r ih =>
    intro ρ h
    obtain ⟨ρ', h1, h2⟩ := hstep y r ρ h
    obtain ⟨ρ2, h3, h4⟩ := ih ρ' h2
    refine ⟨ρ2, ?_, h4⟩
    rw [List.map_cons]
    rcases h1 with h1 | h1
    · rw [loop_cons rfl h1, h3]
    · rw [loop_cont rfl h1, h3]
theorem loop_invN {α : Type} (inj : α → D) {xs0 : List D} {ks : List Nat} {b : D → En → Option Out} (P : List α → En → Prop) (hstep : ∀ y r ρ, P (y :: r) ρ → nxt (b (inj y) ρ) (fun ρ' => P r (killL ks ρ')))
    (ys : List α) (ρ : En) (h : P ys (killL ks ρ)) : ∃ ρ', loopF none xs0 ks b (ys.map inj) ρ = some (.nx ρ') ∧ P [] ρ' :=
  loop_invA inj P (fun y r ρ h => nxt_elim (hstep y r _ h)) ys ρ h
/-- a loop whose every turn leaves the state at the head as it was: a row of checks -/
theorem loop_same {α : Type} (inj : α → D) {xs0 : List D} {ks : List Nat} {b : D → En → Option Out} {ρ0 : En} (ys : List α) (h : ∀ y ∈ ys, ∃ ρ', (b (inj y) ρ0 = some (.nx ρ') ∨ b (inj y) ρ0 = some (.ct ρ')) ∧ killL ks ρ' = ρ0) :
    ∀ {ρ : En}, killL ks ρ = ρ0 → loopF none xs0 ks b (ys.map inj) ρ = some (.nx ρ0) := by
  induction ys with
  | nil => intro ρ e; rw [List.map_nil, loop_nil rfl, e]
  | cons y r ih =>
    intro ρ e
    obtain ⟨ρ', h1, h2⟩ := h y (List.mem_cons_self ..)
    rw [List.map_cons]
    rcases h1 with h1 | h1
    · rw [loop_cons rfl (by rw [e]; exact h1), ih (fun z hz => h z (List.mem_cons_of_mem _ hz)) h2]
    · rw [loop_cont rfl (by rw [e]; exact h1), ih (fun z hz => h z (List.mem_cons_of_mem _ hz)) h2]
/-! ### comprehensions -/
theorem comp_mapF {α : Type} (inj : α → D) (p : α → Bool) (F : α → D) {xs0 : List D} {vs : List Nat} {g : FG} {c : FT} {e : FE} {ρ0 : En} : ∀ (ys : List α) (acc : List D) (ρ : En), killL vs ρ = ρ0 → acc.length + ys.length ≤ sizeLine →
    (∀ y ∈ ys, ∃ ρ1 ρ2, g (inj y) ρ0 = some ρ1 ∧ c ρ1 = some (p y, ρ2) ∧ (p y = false → killL vs ρ2 = ρ0) ∧ (p y = true → ∃ ρ3, e ρ2 = some (F y, ρ3) ∧ killL vs ρ3 = ρ0)) →
    compG none xs0 vs g (stp c e) (ys.map inj) acc ρ = some (acc ++ (ys.filter p).map F, ρ0) := by
  intro ys
  induction ys with
  | nil =>
    intro acc ρ e0 _ _
    rw [List.map_nil]
    unfold compG
    rw [if_pos ev_lockn, e0]
    simp
  | cons y r ih =>
    intro acc ρ e0 hl h
    rw [List.length_cons] at hl
    obtain ⟨ρ1, ρ2, h1, h2, h3, h4⟩ := h y (List.mem_cons_self ..)
    have hr := fun z hz => h z (List.mem_cons_of_mem _ hz)
    rw [List.map_cons]
    unfold compG
    rw [if_pos ev_lockn, e0, h1]
    show (stp c e acc ρ1).bind _ = _
    unfold stp
    rw [h2]
    show ((if p y = true then _ else _) : Option (List D × En)).bind _ = _
    cases hp : p y with
    | false =>
      rw [if_neg Bool.false_ne_true]
      show compG none xs0 vs g (stp c e) (r.map inj) acc ρ2 = _
      rw [ih acc ρ2 (h3 hp) (by omega) hr, List.filter_cons_of_neg (by rw [hp]; exact Bool.false_ne_true)]
    | true =>
      obtain ⟨ρ3, h5, h6⟩ := h4 hp
      rw [if_pos rfl, h5]
      show ((if acc.length < sizeLine then _ else _) : Option (List D × En)).bind _ = _
      rw [if_pos (by omega)]
      show compG none xs0 vs g (stp c e) (r.map inj) (acc ++ [F y]) ρ3 = _
      rw [ih _ ρ3 h6 (by rw [List.length_append, List.length_singleton]; omega) hr, List.filter_cons_of_pos hp, List.map_cons, List.append_assoc]
      rfl
theorem ev_comp {α : Type} (inj : α → D) (p : α → Bool) (F : α → D) (ys : List α) {vs : List Nat} {it : FA} {g : FG} {c : FT} {e : FE} {ρ ρi ρ0 : En} (hi : it ρ = some (ys.map inj, ρi)) (h0 : killL vs ρi = ρ0) (hl : ys.length ≤ sizeLine)
    (h : ∀ y ∈ ys, ∃ ρ1 ρ2, g (inj y) ρ0 = some ρ1 ∧ c ρ1 = some (p y, ρ2) ∧ (p y = false → killL vs ρ2 = ρ0) ∧ (p y = true → ∃ ρ3, e ρ2 = some (F y, ρ3) ∧ killL vs ρ3 = ρ0)) (hk : killL vs ρ0 = ρ0 := by rfl) :
    eComp none vs it g c e ρ = some (.ol ((ys.filter p).map F), putB vs ρi ρ0) := by
  unfold eComp
  rw [hi]
  show ((compG none (ys.map inj) vs g (stp c e) (ys.map inj) [] ρi).map _) = _
  rw [comp_mapF inj p F ys [] ρi h0 (by rw [List.length_nil]; omega) h]
  show some (_, putB vs ρi (killL vs ρ0)) = _
  rw [hk]
  rfl
theorem ev_compA {α : Type} (inj : α → D) (F : α → D) (ys : List α) {vs : List Nat} {it : FA} {g : FG} {e : FE} {ρ ρi ρ0 : En} (hi : it ρ = some (ys.map inj, ρi)) (h0 : killL vs ρi = ρ0) (hl : ys.length ≤ sizeLine)
    (h : ∀ y ∈ ys, ∃ ρ1 ρ3, g (inj y) ρ0 = some ρ1 ∧ e ρ1 = some (F y, ρ3) ∧ killL vs ρ3 = ρ0) (hk : killL vs ρ0 = ρ0 := by rfl) :
    eComp none vs it g cYes e ρ = some (.ol (ys.map F), putB vs ρi ρ0) := by
  have := ev_comp inj (fun _ => true) F ys (c := cYes) (e := e) (g := g) hi h0 hl (fun y hy => by
    obtain ⟨ρ1, ρ3, h1, h2, h3⟩ := h y hy
    exact ⟨ρ1, ρ1, h1, rfl, fun z => Bool.noConfusion z, fun _ => ⟨ρ3, h2, h3⟩⟩) hk
  rw [this]
  have : ys.filter (fun _ => true) = ys := List.filter_eq_self.mpr fun _ _ => rfl
  rw [this]
theorem while_step {ks : List Nat} {c : FT} {b : FS} {ρ ρ1 : En} {p : Bool × En} {o : Out} (h1 : c (killL ks ρ) = some p) (h2 : p.1 = true) (h3 : b p.2 = some (.nx ρ1)) (h4 : sWhile ks c b ρ1 = some o) : sWhile ks c b ρ = some o := sWhile_step h1 h2 h3 h4
end L2.Pd

namespace L2.Pd
open PySem PySem.Spec PyProof.Rows
/-! ## Sizes of ints; fractions as pairs -/
def Bd (n : Nat) (z : Int) : Prop := z.natAbs < 2 ^ n
theorem two_le {n m : Nat} (h : n ≤ m) : 2 ^ n ≤ 2 ^ m := Nat.pow_le_pow_right (by decide) h
theorem Bd.mono {n m : Nat} {z : Int} (h : Bd n z) (k : n ≤ m) : Bd m z := Nat.lt_of_lt_of_le h (two_le k)
theorem Bd.mul {n m : Nat} {a b : Int} (h : Bd n a) (k : Bd m b) : Bd (n + m) (a * b) := by
  unfold Bd at *
  rw [Int.natAbs_mul, Nat.pow_add]
  exact Nat.mul_lt_mul_of_lt_of_lt h k
theorem Bd.add {n m : Nat} {a b : Int} (h : Bd n a) (k : Bd m b) : Bd (max n m + 1) (a + b) := by
  unfold Bd at *
  have h1 := two_le (Nat.le_max_left n m)
  have h2 := two_le (Nat.le_max_right n m)
  rw [Nat.pow_succ]
  have := Int.natAbs_add_le a b
  omega
theorem Bd.neg {n : Nat} {a : Int} (h : Bd n a) : Bd n (-a) := by unfold Bd at *; rw [Int.natAbs_neg]; exact h
theorem Bd.sub {n m : Nat} {a b : Int} (h : Bd n a) (k : Bd m b) : Bd (max n m + 1) (a - b) := by rw [Int.sub_eq_add_neg]; exact h.add k.neg
theorem Bd.le {n : Nat} {a b : Int} (h : Bd n a) (k : b.natAbs ≤ a.natAbs) : Bd n b := Nat.lt_of_le_of_lt k h
theorem log2_le {x n : Nat} (h : x < 2 ^ n) : x.log2 ≤ n := by
  by_cases h0 : x = 0
  · subst h0; simp
  · exact Nat.le_of_lt ((Nat.log2_lt h0).mpr h)
theorem Bd.mulOk {n m : Nat} {a b : Int} (h : Bd n a) (k : Bd m b) (e : n + m ≤ 100000000) : mulOk a b = true := by
  have h1 := log2_le h
  have h2 := log2_le k
  unfold Pd.mulOk
  rw [Bool.or_eq_true, decide_eq_true_eq]
  right
  omega
theorem noPy {a b : Int} {n : Nat} (h : Bd n b) (e : n ≤ 8999) : Builtin.divisionGoesByPylong a b = false := by
  have h1 := log2_le h
  unfold Builtin.divisionGoesByPylong
  have : ¬ (if (b == 0) = true then 0 else b.natAbs.log2 / 30 + 1) > 300 := by
    split
    · omega
    · omega
  simp [this]
  intro h2
  exfalso
  apply this
  simp
  exact h2
theorem gcd_le_right' {a b : Int} (h : b ≠ 0) : ((Int.gcd a b : Nat) : Int).natAbs ≤ b.natAbs := by
  rw [Int.natAbs_natCast]
  exact Nat.gcd_le_right _ (by omega)
/-- a fraction in lowest terms -/
def Frq (q : Rat) : D := .tuple [.int q.num, .int q.den]
structure BdQ (n : Nat) (q : Rat) : Prop where
  num : Bd n q.num
  den : Bd n q.den
theorem BdQ.mono {n m : Nat} {q : Rat} (h : BdQ n q) (k : n ≤ m) : BdQ m q := ⟨h.num.mono k, h.den.mono k⟩
theorem fr_pos {a b : Int} (hb : 0 < b) : a.fdiv (Int.gcd a b) = (Rat.divInt a b).num ∧ b.fdiv (Int.gcd a b) = (Rat.divInt a b).den := by
  have hg : (0 : Int) ≤ (Int.gcd a b : Nat) := Int.natCast_nonneg _
  rw [Int.fdiv_eq_ediv_of_nonneg _ hg, Int.fdiv_eq_ediv_of_nonneg _ hg, Rat.num_divInt, Rat.den_divInt, if_neg (by omega), Int.sign_eq_one_of_pos hb, Int.one_mul, Int.gcd_comm b a]
  refine ⟨rfl, ?_⟩
  obtain ⟨n, rfl⟩ := Int.eq_ofNat_of_zero_le (Int.le_of_lt hb)
  simp
theorem fr_neg {a b : Int} (hb : b < 0) : a.fdiv (-(Int.gcd a b : Nat)) = (Rat.divInt a b).num ∧ b.fdiv (-(Int.gcd a b : Nat)) = (Rat.divInt a b).den := by
  have := fr_pos (a := -a) (b := -b) (by omega)
  rw [Rat.neg_divInt_neg, Int.gcd_neg, Int.neg_gcd] at this
  rw [← this.1, ← this.2]
  exact ⟨by rw [← Int.neg_fdiv_neg a, Int.neg_neg], by rw [← Int.neg_fdiv_neg b, Int.neg_neg]⟩
theorem bdq_divInt {n : Nat} {a b : Int} (ha : Bd n a) (hb : Bd n b) (h0 : b ≠ 0) : BdQ n (Rat.divInt a b) := by
  constructor
  · refine ha.le ?_
    rw [Rat.num_divInt]
    refine Nat.le_trans (Int.natAbs_ediv_le_natAbs _ _) ?_
    rw [Int.natAbs_mul]
    have : b.sign.natAbs ≤ 1 := by rw [Int.natAbs_sign_of_ne_zero h0]; omega
    calc b.sign.natAbs * a.natAbs ≤ 1 * a.natAbs := Nat.mul_le_mul_right _ this
      _ = a.natAbs := Nat.one_mul _
  · refine hb.le ?_
    rw [Rat.den_divInt, if_neg h0]
    rw [Int.natAbs_natCast]
    exact Nat.div_le_self _ _
theorem Rat.eqd (q : Rat) : q = Rat.divInt q.num q.den := (Rat.num_divInt_den q).symm
theorem den_pos' (q : Rat) : (0 : Int) < q.den := by have := q.den_pos; omega
theorem bdq_mul {n m : Nat} {x y : Rat} (hx : BdQ n x) (hy : BdQ m y) : BdQ (n + m) (x * y) := by
  rw [Rat.eqd x, Rat.eqd y, Rat.divInt_mul_divInt]
  exact bdq_divInt (hx.num.mul hy.num) (hx.den.mul hy.den) (Int.ne_of_gt (Int.mul_pos (den_pos' x) (den_pos' y)))
theorem bdq_add {n m : Nat} {x y : Rat} (hx : BdQ n x) (hy : BdQ m y) : BdQ (n + m + 1) (x + y) := by
  rw [Rat.eqd x, Rat.eqd y, Rat.divInt_add_divInt _ _ (Int.ne_of_gt (den_pos' x)) (Int.ne_of_gt (den_pos' y))]
  exact bdq_divInt (((hx.num.mul hy.den).add (hy.num.mul hx.den)).mono (by omega)) ((hx.den.mul hy.den).mono (by omega)) (Int.ne_of_gt (Int.mul_pos (den_pos' x) (den_pos' y)))
theorem bdq_sub {n m : Nat} {x y : Rat} (hx : BdQ n x) (hy : BdQ m y) : BdQ (n + m + 1) (x - y) := by
  rw [Rat.eqd x, Rat.eqd y, Rat.divInt_sub_divInt _ _ (Int.ne_of_gt (den_pos' x)) (Int.ne_of_gt (den_pos' y))]
  exact bdq_divInt (((hx.num.mul hy.den).sub (hy.num.mul hx.den)).mono (by omega)) ((hx.den.mul hy.den).mono (by omega)) (Int.ne_of_gt (Int.mul_pos (den_pos' x) (den_pos' y)))
theorem bdq_div {n m : Nat} {x y : Rat} (hx : BdQ n x) (hy : BdQ m y) (h0 : y ≠ 0) : BdQ (n + m) (x / y) := by
  have hn : y.num ≠ 0 := fun e => h0 (Rat.num_eq_zero.mp e)
  rw [Rat.div_def, Rat.eqd x, Rat.eqd y, Rat.inv_divInt, Rat.divInt_mul_divInt]
  exact bdq_divInt (hx.num.mul hy.den) (hx.den.mul hy.num) (Int.mul_ne_zero (Int.ne_of_gt (den_pos' x)) hn)
theorem mul_di (x y : Rat) : x * y = Rat.divInt (x.num * y.num) (x.den * y.den) := by
  conv => lhs; rw [Rat.eqd x, Rat.eqd y, Rat.divInt_mul_divInt]
theorem add_di (x y : Rat) : x + y = Rat.divInt (x.num * y.den + y.num * x.den) (x.den * y.den) := by
  conv => lhs; rw [Rat.eqd x, Rat.eqd y, Rat.divInt_add_divInt _ _ (Int.ne_of_gt (den_pos' x)) (Int.ne_of_gt (den_pos' y))]
theorem sub_di (x y : Rat) : x - y = Rat.divInt (x.num * y.den - y.num * x.den) (x.den * y.den) := by
  conv => lhs; rw [Rat.eqd x, Rat.eqd y, Rat.divInt_sub_divInt _ _ (Int.ne_of_gt (den_pos' x)) (Int.ne_of_gt (den_pos' y))]
theorem div_di (x y : Rat) : x / y = Rat.divInt (x.num * y.den) (x.den * y.num) := by
  conv => lhs; rw [Rat.div_def, Rat.eqd x, Rat.eqd y, Rat.inv_divInt, Rat.divInt_mul_divInt]
/-! two bounds: of the number above, of the number below -/
structure BdR (n d : Nat) (q : Rat) : Prop where
  num : Bd n q.num
  den : Bd d q.den
theorem BdR.mono {n m d e : Nat} {q : Rat} (h : BdR n d q) (k : n ≤ m) (l : d ≤ e) : BdR m e q := ⟨h.num.mono k, h.den.mono l⟩
theorem bdr_divInt {n m : Nat} {a b : Int} (ha : Bd n a) (hb : Bd m b) (h0 : b ≠ 0) : BdR n m (Rat.divInt a b) := by
  constructor
  · refine ha.le ?_
    rw [Rat.num_divInt]
    refine Nat.le_trans (Int.natAbs_ediv_le_natAbs _ _) ?_
    rw [Int.natAbs_mul]
    have : b.sign.natAbs ≤ 1 := by rw [Int.natAbs_sign_of_ne_zero h0]; omega
    calc b.sign.natAbs * a.natAbs ≤ 1 * a.natAbs := Nat.mul_le_mul_right _ this
      _ = a.natAbs := Nat.one_mul _
  · refine hb.le ?_
    rw [Rat.den_divInt, if_neg h0]
    rw [Int.natAbs_natCast]
    exact Nat.div_le_self _ _
section
variable {n d m e : Nat} {x y : Rat}
theorem bdr_mul (hx : BdR n d x) (hy : BdR m e y) : BdR (n + m) (d + e) (x * y) := by
  rw [mul_di]
  exact bdr_divInt (hx.num.mul hy.num) (hx.den.mul hy.den) (Int.ne_of_gt (Int.mul_pos (den_pos' x) (den_pos' y)))
theorem bdr_add (hx : BdR n d x) (hy : BdR m e y) : BdR (max (n + e) (m + d) + 1) (d + e) (x + y) := by
  rw [add_di]
  exact bdr_divInt ((hx.num.mul hy.den).add (hy.num.mul hx.den)) (hx.den.mul hy.den) (Int.ne_of_gt (Int.mul_pos (den_pos' x) (den_pos' y)))
theorem bdr_sub (hx : BdR n d x) (hy : BdR m e y) : BdR (max (n + e) (m + d) + 1) (d + e) (x - y) := by
  rw [sub_di]
  exact bdr_divInt ((hx.num.mul hy.den).sub (hy.num.mul hx.den)) (hx.den.mul hy.den) (Int.ne_of_gt (Int.mul_pos (den_pos' x) (den_pos' y)))
theorem bdr_div (hx : BdR n d x) (hy : BdR m e y) (h0 : y ≠ 0) : BdR (n + e) (d + m) (x / y) := by
  have hn : y.num ≠ 0 := fun e => h0 (Rat.num_eq_zero.mp e)
  rw [div_di]
  exact bdr_divInt (hx.num.mul hy.den) (hx.den.mul hy.num) (Int.mul_ne_zero (Int.ne_of_gt (den_pos' x)) hn)
end
end L2.Pd

namespace L2.Pd
open PySem PySem.Spec PyProof.Rows
/-! ## Slices -/
def cutL {α : Type} (xs : List α) (lo hi : Option Int) : List α := (xs.drop (HT.sIx xs.length 0 lo)).take (HT.sIx xs.length xs.length hi - HT.sIx xs.length 0 lo)
theorem sIx_ge {n d : Nat} {v : Int} (h : 0 ≤ v) : HT.sIx n d (some v) = min v.toNat n := by
  show (if v < 0 then (v + (n : Int)).toNat else min v.toNat n) = _
  rw [if_neg (by omega)]
theorem sIx_lt {n d : Nat} {v : Int} (h : v < 0) : HT.sIx n d (some v) = (v + (n : Int)).toNat := by
  show (if v < 0 then (v + (n : Int)).toNat else min v.toNat n) = _
  rw [if_pos h]
section
variable {α β : Type} {xs : List α}
theorem cutL_to {n : Int} (h : 0 ≤ n) : cutL xs none (some n) = xs.take n.toNat := by
  unfold cutL
  rw [HT.sIx_none, sIx_ge h, List.drop_zero, Nat.sub_zero]
  by_cases k : n.toNat ≤ xs.length
  · rw [Nat.min_eq_left k]
  · rw [Nat.min_eq_right (by omega), List.take_length, List.take_of_length_le (by omega)]
theorem cutL_from {n : Int} (h : 0 ≤ n) : cutL xs (some n) none = xs.drop n.toNat := by
  unfold cutL
  rw [HT.sIx_none, sIx_ge h, List.take_of_length_le (by rw [List.length_drop]; omega)]
  by_cases k : n.toNat ≤ xs.length
  · rw [Nat.min_eq_left k]
  · rw [Nat.min_eq_right (by omega), List.drop_length, List.drop_eq_nil_of_le (by omega)]
theorem cutL_mid {m n : Int} (h : 0 ≤ m) (k : 0 ≤ n) : cutL xs (some m) (some n) = (xs.drop m.toNat).take (n.toNat - m.toNat) := by
  unfold cutL
  rw [sIx_ge h, sIx_ge k]
  by_cases q : m.toNat ≤ xs.length
  · rw [Nat.min_eq_left q]
    by_cases z : n.toNat ≤ xs.length
    · rw [Nat.min_eq_left z]
    · rw [Nat.min_eq_right (by omega), List.take_of_length_le (by rw [List.length_drop]; omega), List.take_of_length_le (by rw [List.length_drop]; omega)]
  · rw [Nat.min_eq_right (a := m.toNat) (by omega), List.drop_length, List.drop_eq_nil_of_le (i := m.toNat) (by omega), List.take_nil, List.take_nil]
theorem cutL_all : cutL xs none none = xs := by
  unfold cutL
  rw [HT.sIx_none, HT.sIx_none, List.drop_zero, Nat.sub_zero, List.take_length]
theorem cutL_dl : cutL xs none (some (-1)) = xs.dropLast := by
  unfold cutL
  rw [HT.sIx_none, sIx_lt (by decide), List.drop_zero, Nat.sub_zero, List.dropLast_eq_take]
  congr 1
  omega
theorem cutL_map (f : α → β) (lo hi : Option Int) : cutL (xs.map f) lo hi = (cutL xs lo hi).map f := by
  unfold cutL
  rw [List.length_map, List.map_take, List.map_drop]
end
theorem cutD_eq (ds : List D) (lo hi : Option Int) : cutD ds lo hi = cutL ds lo hi := rfl
theorem cutD_is (ns : List Int) (lo hi : Option Int) : cutD (is ns) lo hi = is (cutL ns lo hi) := by rw [cutD_eq]; exact cutL_map _ _ _
/-! ## Texts as lists of signs -/
def SL (l : List Nat) : Str := ⟨l.toArray⟩
section
variable {l m : List Nat}
@[simp] theorem SL_len : (SL l).length = l.length := by show l.toArray.size = _; rw [List.size_toArray]
@[simp] theorem SL_app : SL l ++ SL m = SL (l ++ m) := by
  show (⟨l.toArray ++ m.toArray⟩ : Str) = ⟨(l ++ m).toArray⟩
  simp
theorem SL_cut (lo hi : Option Int) : cutS (SL l) lo hi = SL (cutL l lo hi) := by
  unfold cutS cutL SL
  have : (⟨l.toArray⟩ : Str).length = l.length := SL_len
  rw [this]
theorem signsD_SL : signsD (SL l) = l.map (fun c => .str (SL [c])) := rfl
theorem SL_inj : SL l = SL m ↔ l = m := by
  constructor
  · intro h
    have : (SL l).cps.toList = (SL m).cps.toList := by rw [h]
    exact this
  · intro h; rw [h]
theorem SL_beq : (SL l == SL m) = decide (l = m) := by
  by_cases h : l = m
  · subst h; rw [decide_eq_true rfl]; exact beq_self_eq_true _
  · rw [decide_eq_false h, beq_eq_false_iff_ne]; exact fun z => h (SL_inj.mp z)
theorem strOk_SL (h : ∀ c ∈ l, c < 0x110000) : PyData.strOk (SL l) = true := by
  unfold PyData.strOk SL
  rw [List.all_toArray, List.all_eq_true]
  intro c hc
  exact decide_eq_true (h c hc)
theorem dIx_SL (h : l.length ≤ 16777216) (i : Int) : dIx (.str (SL l)) (.int i) = (atI l i).map fun c => .str (SL [c]) := by
  show (if (SL l).length ≤ sizeLine then (atI (SL l).cps.toList i).map fun c => PyData.str ⟨#[c]⟩ else none) = _
  rw [SL_len, if_pos (show l.length ≤ sizeLine from h)]
  rfl
@[simp] theorem revS_SL : revS (SL l) = SL l.reverse := by
  unfold revS SL
  simp
theorem bEq_SL (h : PyData.strOk (SL l) = true) (k : PyData.strOk (SL m) = true) : bEq (.str (SL l)) (.str (SL m)) = some (decide (l = m)) := by
  rw [ev_eq (by rw [ev_okD]; simp [h]) (by rw [ev_okD]; simp [k]), eqv_SS, SL_beq]
theorem bNe_SL (h : PyData.strOk (SL l) = true) (k : PyData.strOk (SL m) = true) : bNe (.str (SL l)) (.str (SL m)) = some (!decide (l = m)) := by
  unfold bNe
  rw [ev_okD, ev_okD]
  simp [h, k, SL_beq]
theorem ofString_SL (s : String) : (Str.ofString s) = SL (Str.ofString s).cps.toList := rfl
end
end L2.Pd

namespace L2.G
open PySem PySem.Spec PyProof.Rows L2 L2.Pd

noncomputable section
def topS (i : Nat) : Stmt := PySem.Challenge.pw_paperkeep_k90_whole_folds_of_points_and.main.body.getD i (.Pass ⟨0, 0, 0, 0⟩)
section
variable {P : Program} {w : World} {K : PySem.W.Frag} {mg : Str → Option Value} {base : Heap}
/-! ### _law_draws -/
abbrev t__law_draws : Stmt := topS 21
theorem sc__law_draws : FnScope ["script", "many", "cells", "rest", "draws", "k", "at", "mixed", "cell"] ["script", "many"] (defScope t__law_draws) := ⟨rfl, rfl, rfl, by decide +kernel, rfl, by decide +kernel, by decide +kernel⟩
def b__law_draws_1 : FS := sSeq (sSet 6 (eBin dMod (eVar 5) (eCB cLen (aCons (eVar 2) (aNil)))))
  (sIf (eAnd (eTst (eBin (fun x y => (bGe x y).map .bool) (eBin dIx (eVar 2) (eVar 6)) (eBin dPow (eC (.int 10)) (eC (.int 18))))) (eTst (eBin (fun x y => (bGt x y).map .bool) (eIxOwn 3 (eVar 6)) (eC (.int 0))))) (sSeq (sExpr (eMeth 4 lAppend (aCons (eBin dMod (eCB cInt (aCons (eIxOwn 3 (eVar 6)) (aNil))) (eC (.int 1000))) (aNil))))
  (sItem 3 (eVar 6) (eBin dFdiv (eIxOwn 3 (eVar 6)) (eC (.int 1000))))) (sSeq (sSet 7 (eBin dMod (eCB cInt (aCons (eBin dAddA (eBin dAddA (eBin dMul (eBin dIx (eVar 2) (eVar 6)) (eC (.int 48271))) (eBin dMul (eVar 5) (eC (.int 69621)))) (eC (.int 11))) (aNil))) (eC (.int 2147483647))))
  (sExpr (eMeth 4 lAppend (aCons (eBin dMod (eCB cInt (aCons (eBin dAddA (eBin dAddA (eBin dMul (eVar 7) (eVar 7)) (eBin dMul (eC (.int 3)) (eVar 7))) (eVar 5)) (aNil))) (eC (.int 1000003))) (aNil))))))
def l__law_draws_1 : FS := sFor none [5, 6, 7] (iR1 (aCons (eVar 1) (aNil))) (gNm 5) b__law_draws_1
def s__law_draws : FS := sSeq (sSetN 2 (eComp none [8] (iSq (eVar 0)) (gNm 8) (cYes) (eCB cInt (aCons (eVar 8) (aNil)))))
  (sSeq (sIf (eTst (eBin (fun x y => (bEq x y).map .bool) (eLenOwn 2) (eC (.int 0)))) (sExpr (eMeth 2 lAppend (aCons (eC (.int 0)) (aNil)))) (sNx))
  (sSeq (sSetN 3 (eCBN cList (aCons (eVar 2) (aNil))))
  (sSeq (sSetN 4 (eLst (aNil)))
  (sSeq (l__law_draws_1)
  (sSeq (sExpr (eMeth0 4 lReverse))
  (sRetOwn 4))))))
def m__law_draws : FnS := fnSem 9 [] s__law_draws
theorem ok__law_draws (S : Src K mg "_law_draws" t__law_draws ["script", "many"]) (z_int : mg "int" = none) (z_len : mg "len" = none) (z_list : mg "list" = none) (z_range : mg "range" = none) : Cal P w K mg base 1 "_law_draws" ["script", "many"] [] m__law_draws :=
  pd_cal (k := 0) [] S sc__law_draws rfl (body := s__law_draws) (fun f cdv A outer s H E hr => ⟨_, dss_cons (ds_setCompNX rfl sc__law_draws.nd (di_sq (de_var 0)) (own := [("cell", 8)]) (blkOk_by (N := ["script", "many", "cells", "rest", "draws", "k", "at", "mixed", "cell"]) (sc := defScope t__law_draws) (by decide +kernel)) (fun s H C cl fp => dg_name 8 sc__law_draws.nd) (fun s H C cl fp => dts_nil) (fun s H C cl fp => de_callTy call_intD a_int z_int (da_cons (de_var 8) (da_nil))))
  (dss_cons (ds_if (dt_cmp (op_eqB (hu_of' hr)) v_dat (de_lenOwn 2 z_len) (de_int)) (dss_one (ds_expr (de_lm (j := 2) PySem.F.slot_list_append PySem.F.type_list_append mt_append l_append (da_cons (de_int) (da_nil))))) (dss_nil))
  (dss_cons (ds_setN sc__law_draws.nd (dn_callTy call_list_of a_list z_list (da_cons (de_var 2) (da_nil))) (i := 3))
  (dss_cons (ds_setN sc__law_draws.nd (dn_lst (da_nil)) (i := 4))
  (dss_cons (ds_for [5, 6, 7] PassesOwn.never rfl (di_range1 (da_cons (de_var 1) (da_nil)) z_range) (dg_name 5 sc__law_draws.nd) (dss_cons (ds_set sc__law_draws.nd (de_bin op_modN v_mod (de_var 5) (de_callB call_len a_len z_len (da_cons (de_var 2) (da_nil)))) (i := 6))
  (dss_one (ds_if ((dw_and (dt_cmp (op_geB (hu_of' hr)) v_dat (de_ix (de_var 2) (de_var 6)) (de_bin op_powD v_pow (de_int) (de_int))) (dw_and1 (dt_cmp (op_gtB (hu_of' hr)) v_dat (de_ixOwn 3 (de_var 6)) (de_int)))).dt) (dss_cons (ds_expr (de_lm (j := 4) PySem.F.slot_list_append PySem.F.type_list_append mt_append l_append (da_cons (de_bin op_modN v_mod (de_callTy call_intD a_int z_int (da_cons (de_ixOwn 3 (de_var 6)) (da_nil))) (de_int)) (da_nil))))
  (dss_one (ds_item (j := 3) (de_bin op_fdivD v_fdiv (de_ixOwn 3 (de_var 6)) (de_int)) (de_var 6)))) (dss_cons (ds_set sc__law_draws.nd (de_bin op_modN v_mod (de_callTy call_intD a_int z_int (da_cons (de_bin op_addA v_addA (de_bin op_addA v_addA (de_bin op_mulD v_mul (de_ix (de_var 2) (de_var 6)) (de_int)) (de_bin op_mulD v_mul (de_var 5) (de_int))) (de_int)) (da_nil))) (de_int)) (i := 7))
  (dss_one (ds_expr (de_lm (j := 4) PySem.F.slot_list_append PySem.F.type_list_append mt_append l_append (da_cons (de_bin op_modN v_mod (de_callTy call_intD a_int z_int (da_cons (de_bin op_addA v_addA (de_bin op_addA v_addA (de_bin op_mulD v_mul (de_var 7) (de_var 7)) (de_bin op_mulD v_mul (de_int) (de_var 7))) (de_var 5)) (da_nil))) (de_int)) (da_nil))))))))))
  (dss_cons (ds_expr (de_lm0 (j := 4) PySem.F.slot_list_reverse PySem.F.type_list_reverse mt_reverse l_reverse))
  (dss_one (ds_retOwn 4)))))))⟩)
/-! ### _law_take -/
abbrev t__law_take : Stmt := topS 22
theorem sc__law_take : FnScope ["draws", "many"] ["draws", "many"] (defScope t__law_take) := ⟨rfl, rfl, rfl, by decide +kernel, rfl, by decide +kernel, by decide +kernel⟩
def s__law_take : FS := sSeq (sIf (eTst (eBin (fun x y => (bEq x y).map .bool) (eLenOwn 0) (eC (.int 0)))) (sRet (eC (.int 0))) (sNx))
  (sRet (eBin dMod (eCB cInt (aCons (eMeth0 0 lPop) (aNil))) (eVar 1)))
def m__law_take : FnS := fnSem 2 [0] s__law_take
theorem ok__law_take (S : Src K mg "_law_take" t__law_take ["draws", "many"]) (z_int : mg "int" = none) (z_len : mg "len" = none) : Cal P w K mg base 1 "_law_take" ["draws", "many"] [0] m__law_take :=
  pd_cal (k := 0) [0] S sc__law_take rfl (body := s__law_take) (fun f cdv A outer s H E hr => ⟨_, dss_cons (ds_if (dt_cmp (op_eqB (hu_of' hr)) v_dat (de_lenOwn 0 z_len) (de_int)) (dss_one (ds_ret (de_int))) (dss_nil))
  (dss_one (ds_ret (de_bin op_modN v_mod (de_callTy call_intD a_int z_int (da_cons (de_lm0 (j := 0) PySem.F.slot_list_pop PySem.F.type_list_pop mt_pop l_pop) (da_nil))) (de_var 1))))⟩)
/-! ### _law_cell -/
abbrev t__law_cell : Stmt := topS 23
theorem sc__law_cell : FnScope ["script", "draws"] ["script", "draws"] (defScope t__law_cell) := ⟨rfl, rfl, rfl, by decide +kernel, rfl, by decide +kernel, by decide +kernel⟩
def s__law_cell : FS := sSeq (sIf (eTst (eBin (fun x y => (bEq x y).map .bool) (eCB cLen (aCons (eVar 0) (aNil))) (eC (.int 0)))) (sRet (eC (.int 0))) (sNx))
  (sRet (eCB cInt (aCons (eBin dIx (eVar 0) (eRetD (eCall1 0 1 m__law_take (rIo 1 (rCons (eCB cLen (aCons (eVar 0) (aNil))) (rNil)))))) (aNil))))
def m__law_cell : FnS := fnSem 2 [1] s__law_cell
theorem ok__law_cell (S : Src K mg "_law_cell" t__law_cell ["script", "draws"]) (h__law_take : Cal P w K mg base 1 "_law_take" ["draws", "many"] [0] m__law_take) (z_int : mg "int" = none) (z_len : mg "len" = none) : Cal P w K mg base 2 "_law_cell" ["script", "draws"] [1] m__law_cell :=
  pd_cal (k := 1) [1] S sc__law_cell rfl (body := s__law_cell) (fun f cdv A outer s H E hr => ⟨_, dss_cons (ds_if (dt_cmp (op_eqB (hu_of' hr)) v_dat (de_callB call_len a_len z_len (da_cons (de_var 0) (da_nil))) (de_int)) (dss_one (ds_ret (de_int))) (dss_nil))
  (dss_one (ds_ret (de_callTy call_intD a_int z_int (da_cons (de_ix (de_var 0) ((dc_cal1 h__law_take (hr.mono (by first | exact Nat.le_refl _ | decide | omega)) (j := 1) (dr_io (dr_cons (de_callB call_len a_len z_len (da_cons (de_var 0) (da_nil))) (dr_nil)))).de)) (da_nil)))))⟩)
/-! ### _law_shared -/
abbrev t__law_shared : Stmt := topS 25
theorem sc__law_shared : FnScope ["one", "other", "first", "rest", "k", "later"] ["one", "other"] (defScope t__law_shared) := ⟨rfl, rfl, rfl, by decide +kernel, rfl, by decide +kernel, by decide +kernel⟩
def b__law_shared_1 : FS := sSeq (sIf (eTst (eBin (fun x y => (bEq x y).map .bool) (eVar 3) (eC (.int 0)))) (sBrk) (sNx))
  (sSeq (sSet 5 (eBin dMod (eCB cInt (aCons (eVar 2) (aNil))) (eVar 3)))
  (sSeq (sSet 2 (eVar 3))
  (sSet 3 (eVar 5))))
def l__law_shared_1 : FS := sFor none [4, 5] (iR1 (aCons (eC (.int 4000)) (aNil))) (gNm 4) b__law_shared_1
def s__law_shared : FS := sSeq (sSet 2 (eCB cAbs (aCons (eVar 0) (aNil))))
  (sSeq (sSet 3 (eCB cAbs (aCons (eVar 1) (aNil))))
  (sSeq (l__law_shared_1)
  (sRet (eVar 2))))
def m__law_shared : FnS := fnSem 6 [] s__law_shared
theorem ok__law_shared (S : Src K mg "_law_shared" t__law_shared ["one", "other"]) (z_abs : mg "abs" = none) (z_int : mg "int" = none) (z_range : mg "range" = none) : Cal P w K mg base 1 "_law_shared" ["one", "other"] [] m__law_shared :=
  pd_cal (k := 0) [] S sc__law_shared rfl (body := s__law_shared) (fun f cdv A outer s H E hr => ⟨_, dss_cons (ds_set sc__law_shared.nd (de_callB call_abs a_abs z_abs (da_cons (de_var 0) (da_nil))) (i := 2))
  (dss_cons (ds_set sc__law_shared.nd (de_callB call_abs a_abs z_abs (da_cons (de_var 1) (da_nil))) (i := 3))
  (dss_cons (ds_for [4, 5] PassesOwn.never rfl (di_range1 (da_cons (de_int) (da_nil)) z_range) (dg_name 4 sc__law_shared.nd) (dss_cons (ds_if (dt_cmp (op_eqB (hu_of' hr)) v_dat (de_var 3) (de_int)) (dss_one (ds_break)) (dss_nil))
  (dss_cons (ds_set sc__law_shared.nd (de_bin op_modN v_mod (de_callTy call_intD a_int z_int (da_cons (de_var 2) (da_nil))) (de_var 3)) (i := 5))
  (dss_cons (ds_set sc__law_shared.nd (de_var 3) (i := 2))
  (dss_one (ds_set sc__law_shared.nd (de_var 5) (i := 3)))))))
  (dss_one (ds_ret (de_var 2)))))⟩)
/-! ### _law_frac -/
abbrev t__law_frac : Stmt := topS 26
theorem sc__law_frac : FnScope ["n", "d", "size"] ["n", "d"] (defScope t__law_frac) := ⟨rfl, rfl, rfl, by decide +kernel, rfl, by decide +kernel, by decide +kernel⟩
def s__law_frac : FS := sSeq (sSet 2 (eRetD (eCall0 m__law_shared (aCons (eVar 0) (aCons (eVar 1) (aNil))))))
  (sSeq (sIf (eTst (eBin (fun x y => (bLt x y).map .bool) (eVar 1) (eC (.int 0)))) (sSet 2 (eUn dNeg (eVar 2))) (sNx))
  (sRet (eTup (aCons (eBin dFdiv (eVar 0) (eVar 2)) (aCons (eBin dFdiv (eVar 1) (eVar 2)) (aNil))))))
def m__law_frac : FnS := fnSem 3 [] s__law_frac
theorem ok__law_frac (S : Src K mg "_law_frac" t__law_frac ["n", "d"]) (h__law_shared : Cal P w K mg base 1 "_law_shared" ["one", "other"] [] m__law_shared) : Cal P w K mg base 2 "_law_frac" ["n", "d"] [] m__law_frac :=
  pd_cal (k := 1) [] S sc__law_frac rfl (body := s__law_frac) (fun f cdv A outer s H E hr => ⟨_, dss_cons (ds_set sc__law_frac.nd ((dc_cal0 h__law_shared (hr.mono (by first | exact Nat.le_refl _ | decide | omega)) (da_cons (de_var 0) (da_cons (de_var 1) (da_nil))) (aLen_cons (aLen_cons (aLen_nil)))).de) (i := 2))
  (dss_cons (ds_if (dt_cmp (op_ltB (hu_of' hr)) v_dat (de_var 1) (de_int)) (dss_one (ds_set sc__law_frac.nd (de_un un_neg v_neg (de_var 2)) (i := 2))) (dss_nil))
  (dss_one (ds_ret (de_tup (da_cons (de_bin op_fdivD v_fdiv (de_var 0) (de_var 2)) (da_cons (de_bin op_fdivD v_fdiv (de_var 1) (de_var 2)) (da_nil)))))))⟩)
/-! ### _law_less -/
abbrev t__law_less : Stmt := topS 28
theorem sc__law_less : FnScope ["one", "other"] ["one", "other"] (defScope t__law_less) := ⟨rfl, rfl, rfl, by decide +kernel, rfl, by decide +kernel, by decide +kernel⟩
def s__law_less : FS := sRet (eRetD (eCall0 m__law_frac (aCons (eBin dSub (eBin dMul (eBin dIx (eVar 0) (eC (.int 0))) (eBin dIx (eVar 1) (eC (.int 1)))) (eBin dMul (eBin dIx (eVar 1) (eC (.int 0))) (eBin dIx (eVar 0) (eC (.int 1))))) (aCons (eBin dMul (eBin dIx (eVar 0) (eC (.int 1))) (eBin dIx (eVar 1) (eC (.int 1)))) (aNil)))))
def m__law_less : FnS := fnSem 2 [] s__law_less
theorem ok__law_less (S : Src K mg "_law_less" t__law_less ["one", "other"]) (h__law_frac : Cal P w K mg base 2 "_law_frac" ["n", "d"] [] m__law_frac) : Cal P w K mg base 3 "_law_less" ["one", "other"] [] m__law_less :=
  pd_cal (k := 2) [] S sc__law_less rfl (body := s__law_less) (fun f cdv A outer s H E hr => ⟨_, dss_one (ds_ret ((dc_cal0 h__law_frac (hr.mono (by first | exact Nat.le_refl _ | decide | omega)) (da_cons (de_bin op_sub v_sub (de_bin op_mulD v_mul (de_ix (de_var 0) (de_int)) (de_ix (de_var 1) (de_int))) (de_bin op_mulD v_mul (de_ix (de_var 1) (de_int)) (de_ix (de_var 0) (de_int)))) (da_cons (de_bin op_mulD v_mul (de_ix (de_var 0) (de_int)) (de_ix (de_var 1) (de_int))) (da_nil))) (aLen_cons (aLen_cons (aLen_nil)))).de))⟩)
/-! ### _law_line -/
abbrev t__law_line : Stmt := topS 30
theorem sc__law_line : FnScope ["a", "b", "c", "whole", "items", "size", "one", "item"] ["a", "b", "c"] (defScope t__law_line) := ⟨rfl, rfl, rfl, by decide +kernel, rfl, by decide +kernel, by decide +kernel⟩
def s__law_line : FS := sSeq (sSet 3 (eBin dMul (eBin dMul (eBin dIx (eVar 0) (eC (.int 1))) (eBin dIx (eVar 1) (eC (.int 1)))) (eBin dIx (eVar 2) (eC (.int 1)))))
  (sSeq (sSet 4 (eFrz (eComp none [6] (iSq (eFrz (eLst (aCons (eVar 0) (aCons (eVar 1) (aCons (eVar 2) (aNil))))))) (gNm 6) (cYes) (eBin dMul (eBin dIx (eVar 6) (eC (.int 0))) (eBin dFdiv (eVar 3) (eBin dIx (eVar 6) (eC (.int 1))))))))
  (sSeq (sSet 5 (eRetD (eCall0 m__law_shared (aCons (eRetD (eCall0 m__law_shared (aCons (eBin dIx (eVar 4) (eC (.int 0))) (aCons (eBin dIx (eVar 4) (eC (.int 1))) (aNil))))) (aCons (eBin dIx (eVar 4) (eC (.int 2))) (aNil))))))
  (sSeq (sIf (eOr (eTst (eBin (fun x y => (bLt x y).map .bool) (eBin dIx (eVar 4) (eC (.int 0))) (eC (.int 0)))) (eAnd (eTst (eBin (fun x y => (bEq x y).map .bool) (eBin dIx (eVar 4) (eC (.int 0))) (eC (.int 0)))) (eTst (eBin (fun x y => (bLt x y).map .bool) (eBin dIx (eVar 4) (eC (.int 1))) (eC (.int 0)))))) (sSet 5 (eUn dNeg (eVar 5))) (sNx))
  (sRet (eCB cTuple (aCons (eFrz (eComp none [7] (iSq (eVar 4)) (gNm 7) (cYes) (eBin dFdiv (eVar 7) (eVar 5)))) (aNil)))))))
def m__law_line : FnS := fnSem 8 [] s__law_line
theorem ok__law_line (S : Src K mg "_law_line" t__law_line ["a", "b", "c"]) (h__law_shared : Cal P w K mg base 1 "_law_shared" ["one", "other"] [] m__law_shared) (z_tuple : mg "tuple" = none) : Cal P w K mg base 2 "_law_line" ["a", "b", "c"] [] m__law_line :=
  pd_cal (k := 1) [] S sc__law_line rfl (body := s__law_line) (fun f cdv A outer s H E hr => ⟨_, dss_cons (ds_set sc__law_line.nd (de_bin op_mulD v_mul (de_bin op_mulD v_mul (de_ix (de_var 0) (de_int)) (de_ix (de_var 1) (de_int))) (de_ix (de_var 2) (de_int))) (i := 3))
  (dss_cons (ds_setCompX rfl sc__law_line.nd (di_sq ((dn_lst (da_cons (de_var 0) (da_cons (de_var 1) (da_cons (de_var 2) (da_nil))))).de)) (own := [("one", 6)]) (blkOk_by (N := ["a", "b", "c", "whole", "items", "size", "one", "item"]) (sc := defScope t__law_line) (by decide +kernel)) (fun s H C cl fp => dg_name 6 sc__law_line.nd) (fun s H C cl fp => dts_nil) (fun s H C cl fp => de_bin op_mulD v_mul (de_ix (de_var 6) (de_int)) (de_bin op_fdivD v_fdiv (de_var 3) (de_ix (de_var 6) (de_int)))))
  (dss_cons (ds_set sc__law_line.nd ((dc_cal0 h__law_shared (hr.mono (by first | exact Nat.le_refl _ | decide | omega)) (da_cons ((dc_cal0 h__law_shared (hr.mono (by first | exact Nat.le_refl _ | decide | omega)) (da_cons (de_ix (de_var 4) (de_int)) (da_cons (de_ix (de_var 4) (de_int)) (da_nil))) (aLen_cons (aLen_cons (aLen_nil)))).de) (da_cons (de_ix (de_var 4) (de_int)) (da_nil))) (aLen_cons (aLen_cons (aLen_nil)))).de) (i := 5))
  (dss_cons (ds_if ((dw_or (dt_cmp (op_ltB (hu_of' hr)) v_dat (de_ix (de_var 4) (de_int)) (de_int)) (dw_or1 ((dw_and (dt_cmp (op_eqB (hu_of' hr)) v_dat (de_ix (de_var 4) (de_int)) (de_int)) (dw_and1 (dt_cmp (op_ltB (hu_of' hr)) v_dat (de_ix (de_var 4) (de_int)) (de_int)))).dt))).dt) (dss_one (ds_set sc__law_line.nd (de_un un_neg v_neg (de_var 5)) (i := 5))) (dss_nil))
  (dss_one (ds_ret (de_callTy call_tuple_of a_tuple z_tuple (da_cons ((dn_compX rfl sc__law_line.nd (di_sq (de_var 4)) (own := [("item", 7)]) (blkOk_by (N := ["a", "b", "c", "whole", "items", "size", "one", "item"]) (sc := defScope t__law_line) (by decide +kernel)) (fun s H C cl fp => dg_name 7 sc__law_line.nd) (fun s H C cl fp => dts_nil) (fun s H C cl fp => de_bin op_fdivD v_fdiv (de_var 7) (de_var 5))).de) (da_nil))))))))⟩)
/-! ### _law_add -/
abbrev t__law_add : Stmt := topS 27
theorem sc__law_add : FnScope ["one", "other"] ["one", "other"] (defScope t__law_add) := ⟨rfl, rfl, rfl, by decide +kernel, rfl, by decide +kernel, by decide +kernel⟩
def s__law_add : FS := sRet (eRetD (eCall0 m__law_frac (aCons (eBin dAddA (eBin dMul (eBin dIx (eVar 0) (eC (.int 0))) (eBin dIx (eVar 1) (eC (.int 1)))) (eBin dMul (eBin dIx (eVar 1) (eC (.int 0))) (eBin dIx (eVar 0) (eC (.int 1))))) (aCons (eBin dMul (eBin dIx (eVar 0) (eC (.int 1))) (eBin dIx (eVar 1) (eC (.int 1)))) (aNil)))))
def m__law_add : FnS := fnSem 2 [] s__law_add
theorem ok__law_add (S : Src K mg "_law_add" t__law_add ["one", "other"]) (h__law_frac : Cal P w K mg base 2 "_law_frac" ["n", "d"] [] m__law_frac) : Cal P w K mg base 3 "_law_add" ["one", "other"] [] m__law_add :=
  pd_cal (k := 2) [] S sc__law_add rfl (body := s__law_add) (fun f cdv A outer s H E hr => ⟨_, dss_one (ds_ret ((dc_cal0 h__law_frac (hr.mono (by first | exact Nat.le_refl _ | decide | omega)) (da_cons (de_bin op_addA v_addA (de_bin op_mulD v_mul (de_ix (de_var 0) (de_int)) (de_ix (de_var 1) (de_int))) (de_bin op_mulD v_mul (de_ix (de_var 1) (de_int)) (de_ix (de_var 0) (de_int)))) (da_cons (de_bin op_mulD v_mul (de_ix (de_var 0) (de_int)) (de_ix (de_var 1) (de_int))) (da_nil))) (aLen_cons (aLen_cons (aLen_nil)))).de))⟩)
/-! ### _law_mul -/
abbrev t__law_mul : Stmt := topS 29
theorem sc__law_mul : FnScope ["one", "other"] ["one", "other"] (defScope t__law_mul) := ⟨rfl, rfl, rfl, by decide +kernel, rfl, by decide +kernel, by decide +kernel⟩
def s__law_mul : FS := sRet (eRetD (eCall0 m__law_frac (aCons (eBin dMul (eBin dIx (eVar 0) (eC (.int 0))) (eBin dIx (eVar 1) (eC (.int 0)))) (aCons (eBin dMul (eBin dIx (eVar 0) (eC (.int 1))) (eBin dIx (eVar 1) (eC (.int 1)))) (aNil)))))
def m__law_mul : FnS := fnSem 2 [] s__law_mul
theorem ok__law_mul (S : Src K mg "_law_mul" t__law_mul ["one", "other"]) (h__law_frac : Cal P w K mg base 2 "_law_frac" ["n", "d"] [] m__law_frac) : Cal P w K mg base 3 "_law_mul" ["one", "other"] [] m__law_mul :=
  pd_cal (k := 2) [] S sc__law_mul rfl (body := s__law_mul) (fun f cdv A outer s H E hr => ⟨_, dss_one (ds_ret ((dc_cal0 h__law_frac (hr.mono (by first | exact Nat.le_refl _ | decide | omega)) (da_cons (de_bin op_mulD v_mul (de_ix (de_var 0) (de_int)) (de_ix (de_var 1) (de_int))) (da_cons (de_bin op_mulD v_mul (de_ix (de_var 0) (de_int)) (de_ix (de_var 1) (de_int))) (da_nil))) (aLen_cons (aLen_cons (aLen_nil)))).de))⟩)
/-! ### _law_through -/
abbrev t__law_through : Stmt := topS 32
theorem sc__law_through : FnScope ["one", "other", "a", "b"] ["one", "other"] (defScope t__law_through) := ⟨rfl, rfl, rfl, by decide +kernel, rfl, by decide +kernel, by decide +kernel⟩
def s__law_through : FS := sSeq (sSet 2 (eRetD (eCall0 m__law_less (aCons (eBin dIx (eVar 1) (eC (.int 1))) (aCons (eBin dIx (eVar 0) (eC (.int 1))) (aNil))))))
  (sSeq (sSet 3 (eRetD (eCall0 m__law_less (aCons (eBin dIx (eVar 0) (eC (.int 0))) (aCons (eBin dIx (eVar 1) (eC (.int 0))) (aNil))))))
  (sRet (eRetD (eCall0 m__law_line (aCons (eVar 2) (aCons (eVar 3) (aCons (eRetD (eCall0 m__law_add (aCons (eRetD (eCall0 m__law_mul (aCons (eVar 2) (aCons (eBin dIx (eVar 0) (eC (.int 0))) (aNil))))) (aCons (eRetD (eCall0 m__law_mul (aCons (eVar 3) (aCons (eBin dIx (eVar 0) (eC (.int 1))) (aNil))))) (aNil))))) (aNil))))))))
def m__law_through : FnS := fnSem 4 [] s__law_through
theorem ok__law_through (S : Src K mg "_law_through" t__law_through ["one", "other"]) (h__law_add : Cal P w K mg base 3 "_law_add" ["one", "other"] [] m__law_add) (h__law_less : Cal P w K mg base 3 "_law_less" ["one", "other"] [] m__law_less) (h__law_line : Cal P w K mg base 2 "_law_line" ["a", "b", "c"] [] m__law_line) (h__law_mul : Cal P w K mg base 3 "_law_mul" ["one", "other"] [] m__law_mul) : Cal P w K mg base 4 "_law_through" ["one", "other"] [] m__law_through :=
  pd_cal (k := 3) [] S sc__law_through rfl (body := s__law_through) (fun f cdv A outer s H E hr => ⟨_, dss_cons (ds_set sc__law_through.nd ((dc_cal0 h__law_less (hr.mono (by first | exact Nat.le_refl _ | decide | omega)) (da_cons (de_ix (de_var 1) (de_int)) (da_cons (de_ix (de_var 0) (de_int)) (da_nil))) (aLen_cons (aLen_cons (aLen_nil)))).de) (i := 2))
  (dss_cons (ds_set sc__law_through.nd ((dc_cal0 h__law_less (hr.mono (by first | exact Nat.le_refl _ | decide | omega)) (da_cons (de_ix (de_var 0) (de_int)) (da_cons (de_ix (de_var 1) (de_int)) (da_nil))) (aLen_cons (aLen_cons (aLen_nil)))).de) (i := 3))
  (dss_one (ds_ret ((dc_cal0 h__law_line (hr.mono (by first | exact Nat.le_refl _ | decide | omega)) (da_cons (de_var 2) (da_cons (de_var 3) (da_cons ((dc_cal0 h__law_add (hr.mono (by first | exact Nat.le_refl _ | decide | omega)) (da_cons ((dc_cal0 h__law_mul (hr.mono (by first | exact Nat.le_refl _ | decide | omega)) (da_cons (de_var 2) (da_cons (de_ix (de_var 0) (de_int)) (da_nil))) (aLen_cons (aLen_cons (aLen_nil)))).de) (da_cons ((dc_cal0 h__law_mul (hr.mono (by first | exact Nat.le_refl _ | decide | omega)) (da_cons (de_var 3) (da_cons (de_ix (de_var 0) (de_int)) (da_nil))) (aLen_cons (aLen_cons (aLen_nil)))).de) (da_nil))) (aLen_cons (aLen_cons (aLen_nil)))).de) (da_nil)))) (aLen_cons (aLen_cons (aLen_cons (aLen_nil))))).de))))⟩)
/-! ### divisor -/
abbrev t_divisor : Stmt := topS 1
theorem sc_divisor : FnScope ["one", "other"] ["one", "other"] (defScope t_divisor) := ⟨rfl, rfl, rfl, by decide +kernel, rfl, by decide +kernel, by decide +kernel⟩
def b_divisor_1 : FS := sPar 0 1 (aCons (eVar 1) (aCons (eBin dMod (eVar 0) (eVar 1)) (aNil)))
def l_divisor_1 : FS := sWhile [] (eTst (eBin (fun x y => (bGt x y).map .bool) (eVar 1) (eC (.int 0)))) b_divisor_1
def s_divisor : FS := sSeq (sPar 0 1 (aCons (eCB cAbs (aCons (eVar 0) (aNil))) (aCons (eCB cAbs (aCons (eVar 1) (aNil))) (aNil))))
  (sSeq (l_divisor_1)
  (sRet (eVar 0)))
def m_divisor : FnS := fnSem 2 [] s_divisor
theorem ok_divisor (S : Src K mg "divisor" t_divisor ["one", "other"]) (z_abs : mg "abs" = none) : Cal P w K mg base 1 "divisor" ["one", "other"] [] m_divisor :=
  pd_cal (k := 0) [] S sc_divisor rfl (body := s_divisor) (fun f cdv A outer s H E hr => ⟨_, dss_cons (ds_par rfl sc_divisor.nd (da_cons (de_callB call_abs a_abs z_abs (da_cons (de_var 0) (da_nil))) (da_cons (de_callB call_abs a_abs z_abs (da_cons (de_var 1) (da_nil))) (da_nil))) (i := 0) (j := 1))
  (dss_cons (ds_while [] PassesOwn.never (dt_cmp (op_gtB (hu_of' hr)) v_dat (de_var 1) (de_int)) (dss_one (ds_par rfl sc_divisor.nd (da_cons (de_var 1) (da_cons (de_bin op_modN v_mod (de_var 0) (de_var 1)) (da_nil))) (i := 0) (j := 1))))
  (dss_one (ds_ret (de_var 0))))⟩)
/-! ### fraction -/
abbrev t_fraction : Stmt := topS 2
theorem sc_fraction : FnScope ["n", "d", "common"] ["n", "d"] (defScope t_fraction) := ⟨rfl, rfl, rfl, by decide +kernel, rfl, by decide +kernel, by decide +kernel⟩
def s_fraction : FS := sSeq (sSet 2 (eRetD (eCall0 m_divisor (aCons (eVar 0) (aCons (eVar 1) (aNil))))))
  (sRet (eTup (aCons (eBin dFdiv (eVar 0) (eVar 2)) (aCons (eBin dFdiv (eVar 1) (eVar 2)) (aNil)))))
def m_fraction : FnS := fnSem 3 [] s_fraction
theorem ok_fraction (S : Src K mg "fraction" t_fraction ["n", "d"]) (h_divisor : Cal P w K mg base 1 "divisor" ["one", "other"] [] m_divisor) : Cal P w K mg base 2 "fraction" ["n", "d"] [] m_fraction :=
  pd_cal (k := 1) [] S sc_fraction rfl (body := s_fraction) (fun f cdv A outer s H E hr => ⟨_, dss_cons (ds_set sc_fraction.nd ((dc_cal0 h_divisor (hr.mono (by first | exact Nat.le_refl _ | decide | omega)) (da_cons (de_var 0) (da_cons (de_var 1) (da_nil))) (aLen_cons (aLen_cons (aLen_nil)))).de) (i := 2))
  (dss_one (ds_ret (de_tup (da_cons (de_bin op_fdivD v_fdiv (de_var 0) (de_var 2)) (da_cons (de_bin op_fdivD v_fdiv (de_var 1) (de_var 2)) (da_nil))))))⟩)
/-! ### times -/
abbrev t_times : Stmt := topS 6
theorem sc_times : FnScope ["one", "other"] ["one", "other"] (defScope t_times) := ⟨rfl, rfl, rfl, by decide +kernel, rfl, by decide +kernel, by decide +kernel⟩
def s_times : FS := sRet (eRetD (eCall0 m_fraction (aCons (eBin dMul (eBin dIx (eVar 0) (eC (.int 0))) (eBin dIx (eVar 1) (eC (.int 0)))) (aCons (eBin dMul (eBin dIx (eVar 0) (eC (.int 1))) (eBin dIx (eVar 1) (eC (.int 1)))) (aNil)))))
def m_times : FnS := fnSem 2 [] s_times
theorem ok_times (S : Src K mg "times" t_times ["one", "other"]) (h_fraction : Cal P w K mg base 2 "fraction" ["n", "d"] [] m_fraction) : Cal P w K mg base 3 "times" ["one", "other"] [] m_times :=
  pd_cal (k := 2) [] S sc_times rfl (body := s_times) (fun f cdv A outer s H E hr => ⟨_, dss_one (ds_ret ((dc_cal0 h_fraction (hr.mono (by first | exact Nat.le_refl _ | decide | omega)) (da_cons (de_bin op_mulD v_mul (de_ix (de_var 0) (de_int)) (de_ix (de_var 1) (de_int))) (da_cons (de_bin op_mulD v_mul (de_ix (de_var 0) (de_int)) (de_ix (de_var 1) (de_int))) (da_nil))) (aLen_cons (aLen_cons (aLen_nil)))).de))⟩)
/-! ### in_order -/
abbrev t_in_order : Stmt := topS 8
theorem sc_in_order : FnScope ["a", "b", "c", "common", "items", "shared", "one", "item"] ["a", "b", "c"] (defScope t_in_order) := ⟨rfl, rfl, rfl, by decide +kernel, rfl, by decide +kernel, by decide +kernel⟩
def s_in_order : FS := sSeq (sSet 3 (eBin dMul (eBin dMul (eBin dIx (eVar 0) (eC (.int 1))) (eBin dIx (eVar 1) (eC (.int 1)))) (eBin dIx (eVar 2) (eC (.int 1)))))
  (sSeq (sSet 4 (eFrz (eComp none [6] (iSq (eTup (aCons (eVar 0) (aCons (eVar 1) (aCons (eVar 2) (aNil)))))) (gNm 6) (cYes) (eBin dMul (eBin dIx (eVar 6) (eC (.int 0))) (eBin dFdiv (eVar 3) (eBin dIx (eVar 6) (eC (.int 1))))))))
  (sSeq (sSet 5 (eRetD (eCall0 m_divisor (aCons (eRetD (eCall0 m_divisor (aCons (eBin dIx (eVar 4) (eC (.int 0))) (aCons (eBin dIx (eVar 4) (eC (.int 1))) (aNil))))) (aCons (eBin dIx (eVar 4) (eC (.int 2))) (aNil))))))
  (sSeq (sIf (eOr (eTst (eBin (fun x y => (bLt x y).map .bool) (eBin dIx (eVar 4) (eC (.int 0))) (eC (.int 0)))) (eAnd (eTst (eBin (fun x y => (bEq x y).map .bool) (eBin dIx (eVar 4) (eC (.int 0))) (eC (.int 0)))) (eTst (eBin (fun x y => (bLt x y).map .bool) (eBin dIx (eVar 4) (eC (.int 1))) (eC (.int 0)))))) (sSet 5 (eUn dNeg (eVar 5))) (sNx))
  (sRet (eCB cTuple (aCons (eFrz (eComp none [7] (iSq (eVar 4)) (gNm 7) (cYes) (eBin dFdiv (eVar 7) (eVar 5)))) (aNil)))))))
def m_in_order : FnS := fnSem 8 [] s_in_order
theorem ok_in_order (S : Src K mg "in_order" t_in_order ["a", "b", "c"]) (h_divisor : Cal P w K mg base 1 "divisor" ["one", "other"] [] m_divisor) (z_tuple : mg "tuple" = none) : Cal P w K mg base 2 "in_order" ["a", "b", "c"] [] m_in_order :=
  pd_cal (k := 1) [] S sc_in_order rfl (body := s_in_order) (fun f cdv A outer s H E hr => ⟨_, dss_cons (ds_set sc_in_order.nd (de_bin op_mulD v_mul (de_bin op_mulD v_mul (de_ix (de_var 0) (de_int)) (de_ix (de_var 1) (de_int))) (de_ix (de_var 2) (de_int))) (i := 3))
  (dss_cons (ds_setCompX rfl sc_in_order.nd (di_sq (de_tup (da_cons (de_var 0) (da_cons (de_var 1) (da_cons (de_var 2) (da_nil)))))) (own := [("one", 6)]) (blkOk_by (N := ["a", "b", "c", "common", "items", "shared", "one", "item"]) (sc := defScope t_in_order) (by decide +kernel)) (fun s H C cl fp => dg_name 6 sc_in_order.nd) (fun s H C cl fp => dts_nil) (fun s H C cl fp => de_bin op_mulD v_mul (de_ix (de_var 6) (de_int)) (de_bin op_fdivD v_fdiv (de_var 3) (de_ix (de_var 6) (de_int)))))
  (dss_cons (ds_set sc_in_order.nd ((dc_cal0 h_divisor (hr.mono (by first | exact Nat.le_refl _ | decide | omega)) (da_cons ((dc_cal0 h_divisor (hr.mono (by first | exact Nat.le_refl _ | decide | omega)) (da_cons (de_ix (de_var 4) (de_int)) (da_cons (de_ix (de_var 4) (de_int)) (da_nil))) (aLen_cons (aLen_cons (aLen_nil)))).de) (da_cons (de_ix (de_var 4) (de_int)) (da_nil))) (aLen_cons (aLen_cons (aLen_nil)))).de) (i := 5))
  (dss_cons (ds_if ((dw_or (dt_cmp (op_ltB (hu_of' hr)) v_dat (de_ix (de_var 4) (de_int)) (de_int)) (dw_or1 ((dw_and (dt_cmp (op_eqB (hu_of' hr)) v_dat (de_ix (de_var 4) (de_int)) (de_int)) (dw_and1 (dt_cmp (op_ltB (hu_of' hr)) v_dat (de_ix (de_var 4) (de_int)) (de_int)))).dt))).dt) (dss_one (ds_set sc_in_order.nd (de_un un_neg v_neg (de_var 5)) (i := 5))) (dss_nil))
  (dss_one (ds_ret (de_callTy call_tuple_of a_tuple z_tuple (da_cons ((dn_compX rfl sc_in_order.nd (di_sq (de_var 4)) (own := [("item", 7)]) (blkOk_by (N := ["a", "b", "c", "common", "items", "shared", "one", "item"]) (sc := defScope t_in_order) (by decide +kernel)) (fun s H C cl fp => dg_name 7 sc_in_order.nd) (fun s H C cl fp => dts_nil) (fun s H C cl fp => de_bin op_fdivD v_fdiv (de_var 7) (de_var 5))).de) (da_nil))))))))⟩)
/-! ### minus -/
abbrev t_minus : Stmt := topS 5
theorem sc_minus : FnScope ["one", "other"] ["one", "other"] (defScope t_minus) := ⟨rfl, rfl, rfl, by decide +kernel, rfl, by decide +kernel, by decide +kernel⟩
def s_minus : FS := sRet (eRetD (eCall0 m_fraction (aCons (eBin dSub (eBin dMul (eBin dIx (eVar 0) (eC (.int 0))) (eBin dIx (eVar 1) (eC (.int 1)))) (eBin dMul (eBin dIx (eVar 1) (eC (.int 0))) (eBin dIx (eVar 0) (eC (.int 1))))) (aCons (eBin dMul (eBin dIx (eVar 0) (eC (.int 1))) (eBin dIx (eVar 1) (eC (.int 1)))) (aNil)))))
def m_minus : FnS := fnSem 2 [] s_minus
theorem ok_minus (S : Src K mg "minus" t_minus ["one", "other"]) (h_fraction : Cal P w K mg base 2 "fraction" ["n", "d"] [] m_fraction) : Cal P w K mg base 3 "minus" ["one", "other"] [] m_minus :=
  pd_cal (k := 2) [] S sc_minus rfl (body := s_minus) (fun f cdv A outer s H E hr => ⟨_, dss_one (ds_ret ((dc_cal0 h_fraction (hr.mono (by first | exact Nat.le_refl _ | decide | omega)) (da_cons (de_bin op_sub v_sub (de_bin op_mulD v_mul (de_ix (de_var 0) (de_int)) (de_ix (de_var 1) (de_int))) (de_bin op_mulD v_mul (de_ix (de_var 1) (de_int)) (de_ix (de_var 0) (de_int)))) (da_cons (de_bin op_mulD v_mul (de_ix (de_var 0) (de_int)) (de_ix (de_var 1) (de_int))) (da_nil))) (aLen_cons (aLen_cons (aLen_nil)))).de))⟩)
/-! ### plus -/
abbrev t_plus : Stmt := topS 4
theorem sc_plus : FnScope ["one", "other"] ["one", "other"] (defScope t_plus) := ⟨rfl, rfl, rfl, by decide +kernel, rfl, by decide +kernel, by decide +kernel⟩
def s_plus : FS := sRet (eRetD (eCall0 m_fraction (aCons (eBin dAddA (eBin dMul (eBin dIx (eVar 0) (eC (.int 0))) (eBin dIx (eVar 1) (eC (.int 1)))) (eBin dMul (eBin dIx (eVar 1) (eC (.int 0))) (eBin dIx (eVar 0) (eC (.int 1))))) (aCons (eBin dMul (eBin dIx (eVar 0) (eC (.int 1))) (eBin dIx (eVar 1) (eC (.int 1)))) (aNil)))))
def m_plus : FnS := fnSem 2 [] s_plus
theorem ok_plus (S : Src K mg "plus" t_plus ["one", "other"]) (h_fraction : Cal P w K mg base 2 "fraction" ["n", "d"] [] m_fraction) : Cal P w K mg base 3 "plus" ["one", "other"] [] m_plus :=
  pd_cal (k := 2) [] S sc_plus rfl (body := s_plus) (fun f cdv A outer s H E hr => ⟨_, dss_one (ds_ret ((dc_cal0 h_fraction (hr.mono (by first | exact Nat.le_refl _ | decide | omega)) (da_cons (de_bin op_addA v_addA (de_bin op_mulD v_mul (de_ix (de_var 0) (de_int)) (de_ix (de_var 1) (de_int))) (de_bin op_mulD v_mul (de_ix (de_var 1) (de_int)) (de_ix (de_var 0) (de_int)))) (da_cons (de_bin op_mulD v_mul (de_ix (de_var 0) (de_int)) (de_ix (de_var 1) (de_int))) (da_nil))) (aLen_cons (aLen_cons (aLen_nil)))).de))⟩)
/-! ### square_sum -/
abbrev t_square_sum : Stmt := topS 16
theorem sc_square_sum : FnScope ["point"] ["point"] (defScope t_square_sum) := ⟨rfl, rfl, rfl, by decide +kernel, rfl, by decide +kernel, by decide +kernel⟩
def s_square_sum : FS := sRet (eRetD (eCall0 m_plus (aCons (eRetD (eCall0 m_times (aCons (eBin dIx (eVar 0) (eC (.int 0))) (aCons (eBin dIx (eVar 0) (eC (.int 0))) (aNil))))) (aCons (eRetD (eCall0 m_times (aCons (eBin dIx (eVar 0) (eC (.int 1))) (aCons (eBin dIx (eVar 0) (eC (.int 1))) (aNil))))) (aNil)))))
def m_square_sum : FnS := fnSem 1 [] s_square_sum
theorem ok_square_sum (S : Src K mg "square_sum" t_square_sum ["point"]) (h_plus : Cal P w K mg base 3 "plus" ["one", "other"] [] m_plus) (h_times : Cal P w K mg base 3 "times" ["one", "other"] [] m_times) : Cal P w K mg base 4 "square_sum" ["point"] [] m_square_sum :=
  pd_cal (k := 3) [] S sc_square_sum rfl (body := s_square_sum) (fun f cdv A outer s H E hr => ⟨_, dss_one (ds_ret ((dc_cal0 h_plus (hr.mono (by first | exact Nat.le_refl _ | decide | omega)) (da_cons ((dc_cal0 h_times (hr.mono (by first | exact Nat.le_refl _ | decide | omega)) (da_cons (de_ix (de_var 0) (de_int)) (da_cons (de_ix (de_var 0) (de_int)) (da_nil))) (aLen_cons (aLen_cons (aLen_nil)))).de) (da_cons ((dc_cal0 h_times (hr.mono (by first | exact Nat.le_refl _ | decide | omega)) (da_cons (de_ix (de_var 0) (de_int)) (da_cons (de_ix (de_var 0) (de_int)) (da_nil))) (aLen_cons (aLen_cons (aLen_nil)))).de) (da_nil))) (aLen_cons (aLen_cons (aLen_nil)))).de))⟩)
/-! ### point_on_point -/
abbrev t_point_on_point : Stmt := topS 17
theorem sc_point_on_point : FnScope ["one", "other", "a", "b"] ["one", "other"] (defScope t_point_on_point) := ⟨rfl, rfl, rfl, by decide +kernel, rfl, by decide +kernel, by decide +kernel⟩
def s_point_on_point : FS := sSeq (sSet 2 (eRetD (eCall0 m_times (aCons (eTup (aCons (eC (.int 2)) (aCons (eC (.int 1)) (aNil)))) (aCons (eRetD (eCall0 m_minus (aCons (eBin dIx (eVar 1) (eC (.int 0))) (aCons (eBin dIx (eVar 0) (eC (.int 0))) (aNil))))) (aNil))))))
  (sSeq (sSet 3 (eRetD (eCall0 m_times (aCons (eTup (aCons (eC (.int 2)) (aCons (eC (.int 1)) (aNil)))) (aCons (eRetD (eCall0 m_minus (aCons (eBin dIx (eVar 1) (eC (.int 1))) (aCons (eBin dIx (eVar 0) (eC (.int 1))) (aNil))))) (aNil))))))
  (sRet (eRetD (eCall0 m_in_order (aCons (eVar 2) (aCons (eVar 3) (aCons (eRetD (eCall0 m_minus (aCons (eRetD (eCall0 m_square_sum (aCons (eVar 1) (aNil)))) (aCons (eRetD (eCall0 m_square_sum (aCons (eVar 0) (aNil)))) (aNil))))) (aNil))))))))
def m_point_on_point : FnS := fnSem 4 [] s_point_on_point
theorem ok_point_on_point (S : Src K mg "point_on_point" t_point_on_point ["one", "other"]) (h_in_order : Cal P w K mg base 2 "in_order" ["a", "b", "c"] [] m_in_order) (h_minus : Cal P w K mg base 3 "minus" ["one", "other"] [] m_minus) (h_square_sum : Cal P w K mg base 4 "square_sum" ["point"] [] m_square_sum) (h_times : Cal P w K mg base 3 "times" ["one", "other"] [] m_times) : Cal P w K mg base 5 "point_on_point" ["one", "other"] [] m_point_on_point :=
  pd_cal (k := 4) [] S sc_point_on_point rfl (body := s_point_on_point) (fun f cdv A outer s H E hr => ⟨_, dss_cons (ds_set sc_point_on_point.nd ((dc_cal0 h_times (hr.mono (by first | exact Nat.le_refl _ | decide | omega)) (da_cons (de_tup (da_cons (de_int) (da_cons (de_int) (da_nil)))) (da_cons ((dc_cal0 h_minus (hr.mono (by first | exact Nat.le_refl _ | decide | omega)) (da_cons (de_ix (de_var 1) (de_int)) (da_cons (de_ix (de_var 0) (de_int)) (da_nil))) (aLen_cons (aLen_cons (aLen_nil)))).de) (da_nil))) (aLen_cons (aLen_cons (aLen_nil)))).de) (i := 2))
  (dss_cons (ds_set sc_point_on_point.nd ((dc_cal0 h_times (hr.mono (by first | exact Nat.le_refl _ | decide | omega)) (da_cons (de_tup (da_cons (de_int) (da_cons (de_int) (da_nil)))) (da_cons ((dc_cal0 h_minus (hr.mono (by first | exact Nat.le_refl _ | decide | omega)) (da_cons (de_ix (de_var 1) (de_int)) (da_cons (de_ix (de_var 0) (de_int)) (da_nil))) (aLen_cons (aLen_cons (aLen_nil)))).de) (da_nil))) (aLen_cons (aLen_cons (aLen_nil)))).de) (i := 3))
  (dss_one (ds_ret ((dc_cal0 h_in_order (hr.mono (by first | exact Nat.le_refl _ | decide | omega)) (da_cons (de_var 2) (da_cons (de_var 3) (da_cons ((dc_cal0 h_minus (hr.mono (by first | exact Nat.le_refl _ | decide | omega)) (da_cons ((dc_cal0 h_square_sum (hr.mono (by first | exact Nat.le_refl _ | decide | omega)) (da_cons (de_var 1) (da_nil)) (aLen_cons (aLen_nil))).de) (da_cons ((dc_cal0 h_square_sum (hr.mono (by first | exact Nat.le_refl _ | decide | omega)) (da_cons (de_var 0) (da_nil)) (aLen_cons (aLen_nil))).de) (da_nil))) (aLen_cons (aLen_cons (aLen_nil)))).de) (da_nil)))) (aLen_cons (aLen_cons (aLen_cons (aLen_nil))))).de))))⟩)
/-! ### _law_same -/
abbrev t__law_same : Stmt := topS 24
theorem sc__law_same : FnScope ["actual", "due", "k"] ["actual", "due"] (defScope t__law_same) := ⟨rfl, rfl, rfl, by decide +kernel, rfl, by decide +kernel, by decide +kernel⟩
def b__law_same_1 (mf : FnS) : FS := sIf (eNot (eTru (eRetD (eCall0 mf (aCons (eBin dIx (eVar 0) (eVar 2)) (aCons (eBin dIx (eVar 1) (eVar 2)) (aNil))))))) (sRet (eC (.bool false))) (sNx)
def l__law_same_1 (mf : FnS) : FS := sFor none [2] (iR1 (aCons (eCB cLen (aCons (eVar 1) (aNil))) (aNil))) (gNm 2) (b__law_same_1 mf)
def s__law_same (mf : FnS) : FS := sSeq (sIf (eTru (eIsi "bool" (eVar 1))) (sRet (eAndV (eIsi "bool" (eVar 0)) (eBin (fun x y => (bEq x y).map .bool) (eVar 0) (eVar 1)))) (sNx))
  (sSeq (sIf (eTru (eIsi "int" (eVar 1))) (sRet (eAndV (eIsi "int" (eVar 0)) (eAndV (eNotV (eIsi "bool" (eVar 0))) (eBin (fun x y => (bEq x y).map .bool) (eVar 0) (eVar 1))))) (sNx))
  (sSeq (sIf (eTru (eIsi "str" (eVar 1))) (sRet (eAndV (eIsi "str" (eVar 0)) (eBin (fun x y => (bEq x y).map .bool) (eVar 0) (eVar 1)))) (sNx))
  (sSeq (sIf (eTst (eBin (fun x y => (bIsN x y).map .bool) (eVar 1) (eC .none))) (sRet (eBin (fun x y => (bIsN x y).map .bool) (eVar 0) (eC .none))) (sNx))
  (sSeq (sIf (eOr (eNot (eTru (eIsi "tuple" (eVar 0)))) (eTst (eBin (fun x y => (bNe x y).map .bool) (eCB cLen (aCons (eVar 0) (aNil))) (eCB cLen (aCons (eVar 1) (aNil)))))) (sRet (eC (.bool false))) (sNx))
  (sSeq (l__law_same_1 mf)
  (sRet (eC (.bool true))))))))
def m__law_same : Nat → FnS
  | 0 => fun _ => none
  | n + 1 => fnSem 3 [] (s__law_same (m__law_same n))
theorem ok__law_same (S : Src K mg "_law_same" t__law_same ["actual", "due"]) (z_bool : mg "bool" = none) (z_int : mg "int" = none) (z_isinstance : mg "isinstance" = none) (z_len : mg "len" = none) (z_range : mg "range" = none) (z_str : mg "str" = none) (z_tuple : mg "tuple" = none) : ∀ n : Nat, Cal P w K mg base (n + 0) "_law_same" ["actual", "due"] [] (m__law_same n)
  | 0 => cal_none (S := S)
  | n + 1 => by
    have h__law_same := ok__law_same S z_bool z_int z_isinstance z_len z_range z_str z_tuple n
    exact Cal.cast (pd_cal (k := n + 0) [] S sc__law_same rfl (body := s__law_same (m__law_same n)) (fun f cdv A outer s H E hr => ⟨_, dss_cons (ds_if (dt_tru (de_isi (de_var 1) z_isinstance z_bool)) (dss_one (ds_ret (de_and (de_isi (de_var 0) z_isinstance z_bool) (de_one (de_cmp (op_eqB (hu_of' hr)) v_dat (de_var 0) (de_var 1)))))) (dss_nil))
  (dss_cons (ds_if (dt_tru (de_isi (de_var 1) z_isinstance z_int)) (dss_one (ds_ret (de_and (de_isi (de_var 0) z_isinstance z_int) (de_and (de_not (de_isi (de_var 0) z_isinstance z_bool)) (de_one (de_cmp (op_eqB (hu_of' hr)) v_dat (de_var 0) (de_var 1))))))) (dss_nil))
  (dss_cons (ds_if (dt_tru (de_isi (de_var 1) z_isinstance z_str)) (dss_one (ds_ret (de_and (de_isi (de_var 0) z_isinstance z_str) (de_one (de_cmp (op_eqB (hu_of' hr)) v_dat (de_var 0) (de_var 1)))))) (dss_nil))
  (dss_cons (ds_if (dt_cmp (op_isNB) v_dat (de_var 1) (de_non)) (dss_one (ds_ret (de_cmp (op_isNB) v_dat (de_var 0) (de_non)))) (dss_nil))
  (dss_cons (ds_if ((dw_or (dt_not (dt_tru (de_isi (de_var 0) z_isinstance z_tuple))) (dw_or1 (dt_cmp (op_neB (hu_of' hr)) v_dat (de_callB call_len a_len z_len (da_cons (de_var 0) (da_nil))) (de_callB call_len a_len z_len (da_cons (de_var 1) (da_nil)))))).dt) (dss_one (ds_ret (de_bl))) (dss_nil))
  (dss_cons (ds_for [2] PassesOwn.never rfl (di_range1 (da_cons (de_callB call_len a_len z_len (da_cons (de_var 1) (da_nil))) (da_nil)) z_range) (dg_name 2 sc__law_same.nd) (dss_one (ds_if (dt_not (dt_tru ((dc_cal0 h__law_same (hr.mono (by first | exact Nat.le_refl _ | decide | omega)) (da_cons (de_ix (de_var 0) (de_var 2)) (da_cons (de_ix (de_var 1) (de_var 2)) (da_nil))) (aLen_cons (aLen_cons (aLen_nil)))).de))) (dss_one (ds_ret (de_bl))) (dss_nil))))
  (dss_one (ds_ret (de_bl))))))))⟩)) (by omega)
/-! ### _law_beyond -/
abbrev t__law_beyond : Stmt := topS 31
theorem sc__law_beyond : FnScope ["line", "point"] ["line", "point"] (defScope t__law_beyond) := ⟨rfl, rfl, rfl, by decide +kernel, rfl, by decide +kernel, by decide +kernel⟩
def s__law_beyond : FS := sRet (eRetD (eCall0 m__law_less (aCons (eRetD (eCall0 m__law_add (aCons (eRetD (eCall0 m__law_mul (aCons (eTup (aCons (eBin dIx (eVar 0) (eC (.int 0))) (aCons (eC (.int 1)) (aNil)))) (aCons (eBin dIx (eVar 1) (eC (.int 0))) (aNil))))) (aCons (eRetD (eCall0 m__law_mul (aCons (eTup (aCons (eBin dIx (eVar 0) (eC (.int 1))) (aCons (eC (.int 1)) (aNil)))) (aCons (eBin dIx (eVar 1) (eC (.int 1))) (aNil))))) (aNil))))) (aCons (eTup (aCons (eBin dIx (eVar 0) (eC (.int 2))) (aCons (eC (.int 1)) (aNil)))) (aNil)))))
def m__law_beyond : FnS := fnSem 2 [] s__law_beyond
theorem ok__law_beyond (S : Src K mg "_law_beyond" t__law_beyond ["line", "point"]) (h__law_add : Cal P w K mg base 3 "_law_add" ["one", "other"] [] m__law_add) (h__law_less : Cal P w K mg base 3 "_law_less" ["one", "other"] [] m__law_less) (h__law_mul : Cal P w K mg base 3 "_law_mul" ["one", "other"] [] m__law_mul) : Cal P w K mg base 4 "_law_beyond" ["line", "point"] [] m__law_beyond :=
  pd_cal (k := 3) [] S sc__law_beyond rfl (body := s__law_beyond) (fun f cdv A outer s H E hr => ⟨_, dss_one (ds_ret ((dc_cal0 h__law_less (hr.mono (by first | exact Nat.le_refl _ | decide | omega)) (da_cons ((dc_cal0 h__law_add (hr.mono (by first | exact Nat.le_refl _ | decide | omega)) (da_cons ((dc_cal0 h__law_mul (hr.mono (by first | exact Nat.le_refl _ | decide | omega)) (da_cons (de_tup (da_cons (de_ix (de_var 0) (de_int)) (da_cons (de_int) (da_nil)))) (da_cons (de_ix (de_var 1) (de_int)) (da_nil))) (aLen_cons (aLen_cons (aLen_nil)))).de) (da_cons ((dc_cal0 h__law_mul (hr.mono (by first | exact Nat.le_refl _ | decide | omega)) (da_cons (de_tup (da_cons (de_ix (de_var 0) (de_int)) (da_cons (de_int) (da_nil)))) (da_cons (de_ix (de_var 1) (de_int)) (da_nil))) (aLen_cons (aLen_cons (aLen_nil)))).de) (da_nil))) (aLen_cons (aLen_cons (aLen_nil)))).de) (da_cons (de_tup (da_cons (de_ix (de_var 0) (de_int)) (da_cons (de_int) (da_nil)))) (da_nil))) (aLen_cons (aLen_cons (aLen_nil)))).de))⟩)
/-! ### _law_mirror -/
abbrev t__law_mirror : Stmt := topS 33
theorem sc__law_mirror : FnScope ["line", "point", "far"] ["line", "point"] (defScope t__law_mirror) := ⟨rfl, rfl, rfl, by decide +kernel, rfl, by decide +kernel, by decide +kernel⟩
def s__law_mirror : FS := sSeq (sSet 2 (eRetD (eCall0 m__law_mul (aCons (eRetD (eCall0 m__law_beyond (aCons (eVar 0) (aCons (eVar 1) (aNil))))) (aCons (eTup (aCons (eC (.int 2)) (aCons (eBin dAddA (eBin dMul (eBin dIx (eVar 0) (eC (.int 0))) (eBin dIx (eVar 0) (eC (.int 0)))) (eBin dMul (eBin dIx (eVar 0) (eC (.int 1))) (eBin dIx (eVar 0) (eC (.int 1))))) (aNil)))) (aNil))))))
  (sRet (eTup (aCons (eRetD (eCall0 m__law_less (aCons (eBin dIx (eVar 1) (eC (.int 0))) (aCons (eRetD (eCall0 m__law_mul (aCons (eVar 2) (aCons (eTup (aCons (eBin dIx (eVar 0) (eC (.int 0))) (aCons (eC (.int 1)) (aNil)))) (aNil))))) (aNil))))) (aCons (eRetD (eCall0 m__law_less (aCons (eBin dIx (eVar 1) (eC (.int 1))) (aCons (eRetD (eCall0 m__law_mul (aCons (eVar 2) (aCons (eTup (aCons (eBin dIx (eVar 0) (eC (.int 1))) (aCons (eC (.int 1)) (aNil)))) (aNil))))) (aNil))))) (aNil)))))
def m__law_mirror : FnS := fnSem 3 [] s__law_mirror
theorem ok__law_mirror (S : Src K mg "_law_mirror" t__law_mirror ["line", "point"]) (h__law_beyond : Cal P w K mg base 4 "_law_beyond" ["line", "point"] [] m__law_beyond) (h__law_less : Cal P w K mg base 3 "_law_less" ["one", "other"] [] m__law_less) (h__law_mul : Cal P w K mg base 3 "_law_mul" ["one", "other"] [] m__law_mul) : Cal P w K mg base 5 "_law_mirror" ["line", "point"] [] m__law_mirror :=
  pd_cal (k := 4) [] S sc__law_mirror rfl (body := s__law_mirror) (fun f cdv A outer s H E hr => ⟨_, dss_cons (ds_set sc__law_mirror.nd ((dc_cal0 h__law_mul (hr.mono (by first | exact Nat.le_refl _ | decide | omega)) (da_cons ((dc_cal0 h__law_beyond (hr.mono (by first | exact Nat.le_refl _ | decide | omega)) (da_cons (de_var 0) (da_cons (de_var 1) (da_nil))) (aLen_cons (aLen_cons (aLen_nil)))).de) (da_cons (de_tup (da_cons (de_int) (da_cons (de_bin op_addA v_addA (de_bin op_mulD v_mul (de_ix (de_var 0) (de_int)) (de_ix (de_var 0) (de_int))) (de_bin op_mulD v_mul (de_ix (de_var 0) (de_int)) (de_ix (de_var 0) (de_int)))) (da_nil)))) (da_nil))) (aLen_cons (aLen_cons (aLen_nil)))).de) (i := 2))
  (dss_one (ds_ret (de_tup (da_cons ((dc_cal0 h__law_less (hr.mono (by first | exact Nat.le_refl _ | decide | omega)) (da_cons (de_ix (de_var 1) (de_int)) (da_cons ((dc_cal0 h__law_mul (hr.mono (by first | exact Nat.le_refl _ | decide | omega)) (da_cons (de_var 2) (da_cons (de_tup (da_cons (de_ix (de_var 0) (de_int)) (da_cons (de_int) (da_nil)))) (da_nil))) (aLen_cons (aLen_cons (aLen_nil)))).de) (da_nil))) (aLen_cons (aLen_cons (aLen_nil)))).de) (da_cons ((dc_cal0 h__law_less (hr.mono (by first | exact Nat.le_refl _ | decide | omega)) (da_cons (de_ix (de_var 1) (de_int)) (da_cons ((dc_cal0 h__law_mul (hr.mono (by first | exact Nat.le_refl _ | decide | omega)) (da_cons (de_var 2) (da_cons (de_tup (da_cons (de_ix (de_var 0) (de_int)) (da_cons (de_int) (da_nil)))) (da_nil))) (aLen_cons (aLen_cons (aLen_nil)))).de) (da_nil))) (aLen_cons (aLen_cons (aLen_nil)))).de) (da_nil))))))⟩)
/-! ### line_through -/
abbrev t_line_through : Stmt := topS 9
theorem sc_line_through : FnScope ["one", "other", "a", "b"] ["one", "other"] (defScope t_line_through) := ⟨rfl, rfl, rfl, by decide +kernel, rfl, by decide +kernel, by decide +kernel⟩
def s_line_through : FS := sSeq (sPar 2 3 (aCons (eRetD (eCall0 m_minus (aCons (eBin dIx (eVar 1) (eC (.int 1))) (aCons (eBin dIx (eVar 0) (eC (.int 1))) (aNil))))) (aCons (eRetD (eCall0 m_minus (aCons (eBin dIx (eVar 0) (eC (.int 0))) (aCons (eBin dIx (eVar 1) (eC (.int 0))) (aNil))))) (aNil))))
  (sRet (eRetD (eCall0 m_in_order (aCons (eVar 2) (aCons (eVar 3) (aCons (eRetD (eCall0 m_plus (aCons (eRetD (eCall0 m_times (aCons (eVar 2) (aCons (eBin dIx (eVar 0) (eC (.int 0))) (aNil))))) (aCons (eRetD (eCall0 m_times (aCons (eVar 3) (aCons (eBin dIx (eVar 0) (eC (.int 1))) (aNil))))) (aNil))))) (aNil)))))))
def m_line_through : FnS := fnSem 4 [] s_line_through
theorem ok_line_through (S : Src K mg "line_through" t_line_through ["one", "other"]) (h_in_order : Cal P w K mg base 2 "in_order" ["a", "b", "c"] [] m_in_order) (h_minus : Cal P w K mg base 3 "minus" ["one", "other"] [] m_minus) (h_plus : Cal P w K mg base 3 "plus" ["one", "other"] [] m_plus) (h_times : Cal P w K mg base 3 "times" ["one", "other"] [] m_times) : Cal P w K mg base 4 "line_through" ["one", "other"] [] m_line_through :=
  pd_cal (k := 3) [] S sc_line_through rfl (body := s_line_through) (fun f cdv A outer s H E hr => ⟨_, dss_cons (ds_par rfl sc_line_through.nd (da_cons ((dc_cal0 h_minus (hr.mono (by first | exact Nat.le_refl _ | decide | omega)) (da_cons (de_ix (de_var 1) (de_int)) (da_cons (de_ix (de_var 0) (de_int)) (da_nil))) (aLen_cons (aLen_cons (aLen_nil)))).de) (da_cons ((dc_cal0 h_minus (hr.mono (by first | exact Nat.le_refl _ | decide | omega)) (da_cons (de_ix (de_var 0) (de_int)) (da_cons (de_ix (de_var 1) (de_int)) (da_nil))) (aLen_cons (aLen_cons (aLen_nil)))).de) (da_nil))) (i := 2) (j := 3))
  (dss_one (ds_ret ((dc_cal0 h_in_order (hr.mono (by first | exact Nat.le_refl _ | decide | omega)) (da_cons (de_var 2) (da_cons (de_var 3) (da_cons ((dc_cal0 h_plus (hr.mono (by first | exact Nat.le_refl _ | decide | omega)) (da_cons ((dc_cal0 h_times (hr.mono (by first | exact Nat.le_refl _ | decide | omega)) (da_cons (de_var 2) (da_cons (de_ix (de_var 0) (de_int)) (da_nil))) (aLen_cons (aLen_cons (aLen_nil)))).de) (da_cons ((dc_cal0 h_times (hr.mono (by first | exact Nat.le_refl _ | decide | omega)) (da_cons (de_var 3) (da_cons (de_ix (de_var 0) (de_int)) (da_nil))) (aLen_cons (aLen_cons (aLen_nil)))).de) (da_nil))) (aLen_cons (aLen_cons (aLen_nil)))).de) (da_nil)))) (aLen_cons (aLen_cons (aLen_cons (aLen_nil))))).de)))⟩)
/-! ### divided -/
abbrev t_divided : Stmt := topS 7
theorem sc_divided : FnScope ["one", "other", "n", "d"] ["one", "other"] (defScope t_divided) := ⟨rfl, rfl, rfl, by decide +kernel, rfl, by decide +kernel, by decide +kernel⟩
def s_divided : FS := sSeq (sPar 2 3 (aCons (eBin dMul (eBin dIx (eVar 0) (eC (.int 0))) (eBin dIx (eVar 1) (eC (.int 1)))) (aCons (eBin dMul (eBin dIx (eVar 0) (eC (.int 1))) (eBin dIx (eVar 1) (eC (.int 0)))) (aNil))))
  (sRet (eIf (eTst (eBin (fun x y => (bGt x y).map .bool) (eVar 3) (eC (.int 0)))) (eRetD (eCall0 m_fraction (aCons (eVar 2) (aCons (eVar 3) (aNil))))) (eRetD (eCall0 m_fraction (aCons (eUn dNeg (eVar 2)) (aCons (eUn dNeg (eVar 3)) (aNil)))))))
def m_divided : FnS := fnSem 4 [] s_divided
theorem ok_divided (S : Src K mg "divided" t_divided ["one", "other"]) (h_fraction : Cal P w K mg base 2 "fraction" ["n", "d"] [] m_fraction) : Cal P w K mg base 3 "divided" ["one", "other"] [] m_divided :=
  pd_cal (k := 2) [] S sc_divided rfl (body := s_divided) (fun f cdv A outer s H E hr => ⟨_, dss_cons (ds_par rfl sc_divided.nd (da_cons (de_bin op_mulD v_mul (de_ix (de_var 0) (de_int)) (de_ix (de_var 1) (de_int))) (da_cons (de_bin op_mulD v_mul (de_ix (de_var 0) (de_int)) (de_ix (de_var 1) (de_int))) (da_nil))) (i := 2) (j := 3))
  (dss_one (ds_ret (de_if (dt_cmp (op_gtB (hu_of' hr)) v_dat (de_var 3) (de_int)) ((dc_cal0 h_fraction (hr.mono (by first | exact Nat.le_refl _ | decide | omega)) (da_cons (de_var 2) (da_cons (de_var 3) (da_nil))) (aLen_cons (aLen_cons (aLen_nil)))).de) ((dc_cal0 h_fraction (hr.mono (by first | exact Nat.le_refl _ | decide | omega)) (da_cons (de_un un_neg v_neg (de_var 2)) (da_cons (de_un un_neg v_neg (de_var 3)) (da_nil))) (aLen_cons (aLen_cons (aLen_nil)))).de))))⟩)
/-! ### meeting -/
abbrev t_meeting : Stmt := topS 12
theorem sc_meeting : FnScope ["one", "other", "cross", "x", "y"] ["one", "other"] (defScope t_meeting) := ⟨rfl, rfl, rfl, by decide +kernel, rfl, by decide +kernel, by decide +kernel⟩
def s_meeting : FS := sSeq (sSet 2 (eBin dSub (eBin dMul (eBin dIx (eVar 0) (eC (.int 0))) (eBin dIx (eVar 1) (eC (.int 1)))) (eBin dMul (eBin dIx (eVar 1) (eC (.int 0))) (eBin dIx (eVar 0) (eC (.int 1))))))
  (sSeq (sIf (eTst (eBin (fun x y => (bEq x y).map .bool) (eVar 2) (eC (.int 0)))) (sRet (eC .none)) (sNx))
  (sSeq (sSet 3 (eTup (aCons (eBin dSub (eBin dMul (eBin dIx (eVar 0) (eC (.int 2))) (eBin dIx (eVar 1) (eC (.int 1)))) (eBin dMul (eBin dIx (eVar 1) (eC (.int 2))) (eBin dIx (eVar 0) (eC (.int 1))))) (aCons (eC (.int 1)) (aNil)))))
  (sSeq (sSet 4 (eTup (aCons (eBin dSub (eBin dMul (eBin dIx (eVar 0) (eC (.int 0))) (eBin dIx (eVar 1) (eC (.int 2)))) (eBin dMul (eBin dIx (eVar 1) (eC (.int 0))) (eBin dIx (eVar 0) (eC (.int 2))))) (aCons (eC (.int 1)) (aNil)))))
  (sRet (eTup (aCons (eRetD (eCall0 m_divided (aCons (eVar 3) (aCons (eTup (aCons (eVar 2) (aCons (eC (.int 1)) (aNil)))) (aNil))))) (aCons (eRetD (eCall0 m_divided (aCons (eVar 4) (aCons (eTup (aCons (eVar 2) (aCons (eC (.int 1)) (aNil)))) (aNil))))) (aNil))))))))
def m_meeting : FnS := fnSem 5 [] s_meeting
theorem ok_meeting (S : Src K mg "meeting" t_meeting ["one", "other"]) (h_divided : Cal P w K mg base 3 "divided" ["one", "other"] [] m_divided) : Cal P w K mg base 4 "meeting" ["one", "other"] [] m_meeting :=
  pd_cal (k := 3) [] S sc_meeting rfl (body := s_meeting) (fun f cdv A outer s H E hr => ⟨_, dss_cons (ds_set sc_meeting.nd (de_bin op_sub v_sub (de_bin op_mulD v_mul (de_ix (de_var 0) (de_int)) (de_ix (de_var 1) (de_int))) (de_bin op_mulD v_mul (de_ix (de_var 1) (de_int)) (de_ix (de_var 0) (de_int)))) (i := 2))
  (dss_cons (ds_if (dt_cmp (op_eqB (hu_of' hr)) v_dat (de_var 2) (de_int)) (dss_one (ds_ret (de_non))) (dss_nil))
  (dss_cons (ds_set sc_meeting.nd (de_tup (da_cons (de_bin op_sub v_sub (de_bin op_mulD v_mul (de_ix (de_var 0) (de_int)) (de_ix (de_var 1) (de_int))) (de_bin op_mulD v_mul (de_ix (de_var 1) (de_int)) (de_ix (de_var 0) (de_int)))) (da_cons (de_int) (da_nil)))) (i := 3))
  (dss_cons (ds_set sc_meeting.nd (de_tup (da_cons (de_bin op_sub v_sub (de_bin op_mulD v_mul (de_ix (de_var 0) (de_int)) (de_ix (de_var 1) (de_int))) (de_bin op_mulD v_mul (de_ix (de_var 1) (de_int)) (de_ix (de_var 0) (de_int)))) (da_cons (de_int) (da_nil)))) (i := 4))
  (dss_one (ds_ret (de_tup (da_cons ((dc_cal0 h_divided (hr.mono (by first | exact Nat.le_refl _ | decide | omega)) (da_cons (de_var 3) (da_cons (de_tup (da_cons (de_var 2) (da_cons (de_int) (da_nil)))) (da_nil))) (aLen_cons (aLen_cons (aLen_nil)))).de) (da_cons ((dc_cal0 h_divided (hr.mono (by first | exact Nat.le_refl _ | decide | omega)) (da_cons (de_var 4) (da_cons (de_tup (da_cons (de_var 2) (da_cons (de_int) (da_nil)))) (da_nil))) (aLen_cons (aLen_cons (aLen_nil)))).de) (da_nil)))))))))⟩)
/-! ### _law_at -/
abbrev t__law_at : Stmt := topS 36
theorem sc__law_at : FnScope ["one", "other", "turned_by"] ["one", "other"] (defScope t__law_at) := ⟨rfl, rfl, rfl, by decide +kernel, rfl, by decide +kernel, by decide +kernel⟩
def s__law_at : FS := sSeq (sSet 2 (eBin dSub (eBin dMul (eBin dIx (eVar 0) (eC (.int 0))) (eBin dIx (eVar 1) (eC (.int 1)))) (eBin dMul (eBin dIx (eVar 1) (eC (.int 0))) (eBin dIx (eVar 0) (eC (.int 1))))))
  (sSeq (sIf (eTst (eBin (fun x y => (bEq x y).map .bool) (eVar 2) (eC (.int 0)))) (sRet (eC .none)) (sNx))
  (sRet (eTup (aCons (eRetD (eCall0 m__law_frac (aCons (eBin dSub (eBin dMul (eBin dIx (eVar 0) (eC (.int 2))) (eBin dIx (eVar 1) (eC (.int 1)))) (eBin dMul (eBin dIx (eVar 1) (eC (.int 2))) (eBin dIx (eVar 0) (eC (.int 1))))) (aCons (eVar 2) (aNil))))) (aCons (eRetD (eCall0 m__law_frac (aCons (eBin dSub (eBin dMul (eBin dIx (eVar 0) (eC (.int 0))) (eBin dIx (eVar 1) (eC (.int 2)))) (eBin dMul (eBin dIx (eVar 1) (eC (.int 0))) (eBin dIx (eVar 0) (eC (.int 2))))) (aCons (eVar 2) (aNil))))) (aNil))))))
def m__law_at : FnS := fnSem 3 [] s__law_at
theorem ok__law_at (S : Src K mg "_law_at" t__law_at ["one", "other"]) (h__law_frac : Cal P w K mg base 2 "_law_frac" ["n", "d"] [] m__law_frac) : Cal P w K mg base 3 "_law_at" ["one", "other"] [] m__law_at :=
  pd_cal (k := 2) [] S sc__law_at rfl (body := s__law_at) (fun f cdv A outer s H E hr => ⟨_, dss_cons (ds_set sc__law_at.nd (de_bin op_sub v_sub (de_bin op_mulD v_mul (de_ix (de_var 0) (de_int)) (de_ix (de_var 1) (de_int))) (de_bin op_mulD v_mul (de_ix (de_var 1) (de_int)) (de_ix (de_var 0) (de_int)))) (i := 2))
  (dss_cons (ds_if (dt_cmp (op_eqB (hu_of' hr)) v_dat (de_var 2) (de_int)) (dss_one (ds_ret (de_non))) (dss_nil))
  (dss_one (ds_ret (de_tup (da_cons ((dc_cal0 h__law_frac (hr.mono (by first | exact Nat.le_refl _ | decide | omega)) (da_cons (de_bin op_sub v_sub (de_bin op_mulD v_mul (de_ix (de_var 0) (de_int)) (de_ix (de_var 1) (de_int))) (de_bin op_mulD v_mul (de_ix (de_var 1) (de_int)) (de_ix (de_var 0) (de_int)))) (da_cons (de_var 2) (da_nil))) (aLen_cons (aLen_cons (aLen_nil)))).de) (da_cons ((dc_cal0 h__law_frac (hr.mono (by first | exact Nat.le_refl _ | decide | omega)) (da_cons (de_bin op_sub v_sub (de_bin op_mulD v_mul (de_ix (de_var 0) (de_int)) (de_ix (de_var 1) (de_int))) (de_bin op_mulD v_mul (de_ix (de_var 1) (de_int)) (de_ix (de_var 0) (de_int)))) (da_cons (de_var 2) (da_nil))) (aLen_cons (aLen_cons (aLen_nil)))).de) (da_nil)))))))⟩)
/-! ### beyond -/
abbrev t_beyond : Stmt := topS 10
theorem sc_beyond : FnScope ["line", "point", "a", "b", "c", "both"] ["line", "point"] (defScope t_beyond) := ⟨rfl, rfl, rfl, by decide +kernel, rfl, by decide +kernel, by decide +kernel⟩
def s_beyond : FS := sSeq (sAsg (eVar 0) (gTp 3 (gCn (gNm 2) (gCn (gNm 3) (gCn (gNm 4) (gNl))))))
  (sSeq (sSet 5 (eRetD (eCall0 m_plus (aCons (eRetD (eCall0 m_times (aCons (eTup (aCons (eVar 2) (aCons (eC (.int 1)) (aNil)))) (aCons (eBin dIx (eVar 1) (eC (.int 0))) (aNil))))) (aCons (eRetD (eCall0 m_times (aCons (eTup (aCons (eVar 3) (aCons (eC (.int 1)) (aNil)))) (aCons (eBin dIx (eVar 1) (eC (.int 1))) (aNil))))) (aNil))))))
  (sRet (eRetD (eCall0 m_minus (aCons (eVar 5) (aCons (eTup (aCons (eVar 4) (aCons (eC (.int 1)) (aNil)))) (aNil)))))))
def m_beyond : FnS := fnSem 6 [] s_beyond
theorem ok_beyond (S : Src K mg "beyond" t_beyond ["line", "point"]) (h_minus : Cal P w K mg base 3 "minus" ["one", "other"] [] m_minus) (h_plus : Cal P w K mg base 3 "plus" ["one", "other"] [] m_plus) (h_times : Cal P w K mg base 3 "times" ["one", "other"] [] m_times) : Cal P w K mg base 4 "beyond" ["line", "point"] [] m_beyond :=
  pd_cal (k := 3) [] S sc_beyond rfl (body := s_beyond) (fun f cdv A outer s H E hr => ⟨_, dss_cons (ds_asg (de_var 0) (dg_tup rfl (dgs_cons (dg_name 2 sc_beyond.nd) (dgs_cons (dg_name 3 sc_beyond.nd) (dgs_cons (dg_name 4 sc_beyond.nd) (dgs_nil))))))
  (dss_cons (ds_set sc_beyond.nd ((dc_cal0 h_plus (hr.mono (by first | exact Nat.le_refl _ | decide | omega)) (da_cons ((dc_cal0 h_times (hr.mono (by first | exact Nat.le_refl _ | decide | omega)) (da_cons (de_tup (da_cons (de_var 2) (da_cons (de_int) (da_nil)))) (da_cons (de_ix (de_var 1) (de_int)) (da_nil))) (aLen_cons (aLen_cons (aLen_nil)))).de) (da_cons ((dc_cal0 h_times (hr.mono (by first | exact Nat.le_refl _ | decide | omega)) (da_cons (de_tup (da_cons (de_var 3) (da_cons (de_int) (da_nil)))) (da_cons (de_ix (de_var 1) (de_int)) (da_nil))) (aLen_cons (aLen_cons (aLen_nil)))).de) (da_nil))) (aLen_cons (aLen_cons (aLen_nil)))).de) (i := 5))
  (dss_one (ds_ret ((dc_cal0 h_minus (hr.mono (by first | exact Nat.le_refl _ | decide | omega)) (da_cons (de_var 5) (da_cons (de_tup (da_cons (de_var 4) (da_cons (de_int) (da_nil)))) (da_nil))) (aLen_cons (aLen_cons (aLen_nil)))).de))))⟩)
/-! ### side -/
abbrev t_side : Stmt := topS 11
theorem sc_side : FnScope ["line", "point", "n"] ["line", "point"] (defScope t_side) := ⟨rfl, rfl, rfl, by decide +kernel, rfl, by decide +kernel, by decide +kernel⟩
def s_side : FS := sSeq (sSet 2 (eBin dIx (eRetD (eCall0 m_beyond (aCons (eVar 0) (aCons (eVar 1) (aNil))))) (eC (.int 0))))
  (sRet (eIf (eTst (eBin (fun x y => (bGt x y).map .bool) (eVar 2) (eC (.int 0)))) (eC (.int 1)) (eIf (eTst (eBin (fun x y => (bLt x y).map .bool) (eVar 2) (eC (.int 0)))) (eUn dNeg (eC (.int 1))) (eC (.int 0)))))
def m_side : FnS := fnSem 3 [] s_side
theorem ok_side (S : Src K mg "side" t_side ["line", "point"]) (h_beyond : Cal P w K mg base 4 "beyond" ["line", "point"] [] m_beyond) : Cal P w K mg base 5 "side" ["line", "point"] [] m_side :=
  pd_cal (k := 4) [] S sc_side rfl (body := s_side) (fun f cdv A outer s H E hr => ⟨_, dss_cons (ds_set sc_side.nd (de_ix ((dc_cal0 h_beyond (hr.mono (by first | exact Nat.le_refl _ | decide | omega)) (da_cons (de_var 0) (da_cons (de_var 1) (da_nil))) (aLen_cons (aLen_cons (aLen_nil)))).de) (de_int)) (i := 2))
  (dss_one (ds_ret (de_if (dt_cmp (op_gtB (hu_of' hr)) v_dat (de_var 2) (de_int)) (de_int) (de_if (dt_cmp (op_ltB (hu_of' hr)) v_dat (de_var 2) (de_int)) (de_un un_neg v_neg (de_int)) (de_int)))))⟩)
/-! ### _law_sign -/
abbrev t__law_sign : Stmt := topS 37
theorem sc__law_sign : FnScope ["number"] ["number"] (defScope t__law_sign) := ⟨rfl, rfl, rfl, by decide +kernel, rfl, by decide +kernel, by decide +kernel⟩
def s__law_sign : FS := sRet (eBin dSub (eCB cInt (aCons (eBin (fun x y => (bGt x y).map .bool) (eVar 0) (eC (.int 0))) (aNil))) (eCB cInt (aCons (eBin (fun x y => (bLt x y).map .bool) (eVar 0) (eC (.int 0))) (aNil))))
def m__law_sign : FnS := fnSem 1 [] s__law_sign
theorem ok__law_sign (S : Src K mg "_law_sign" t__law_sign ["number"]) (z_int : mg "int" = none) : Cal P w K mg base 1 "_law_sign" ["number"] [] m__law_sign :=
  pd_cal (k := 0) [] S sc__law_sign rfl (body := s__law_sign) (fun f cdv A outer s H E hr => ⟨_, dss_one (ds_ret (de_bin op_sub v_sub (de_callTy call_intD a_int z_int (da_cons (de_cmp (op_gtB (hu_of' hr)) v_dat (de_var 0) (de_int)) (da_nil))) (de_callTy call_intD a_int z_int (da_cons (de_cmp (op_ltB (hu_of' hr)) v_dat (de_var 0) (de_int)) (da_nil)))))⟩)
/-! ### mirror_point -/
abbrev t_mirror_point : Stmt := topS 13
theorem sc_mirror_point : FnScope ["line", "point", "a", "b", "c", "step"] ["line", "point"] (defScope t_mirror_point) := ⟨rfl, rfl, rfl, by decide +kernel, rfl, by decide +kernel, by decide +kernel⟩
def s_mirror_point : FS := sSeq (sAsg (eVar 0) (gTp 3 (gCn (gNm 2) (gCn (gNm 3) (gCn (gNm 4) (gNl))))))
  (sSeq (sSet 5 (eRetD (eCall0 m_divided (aCons (eRetD (eCall0 m_times (aCons (eTup (aCons (eC (.int 2)) (aCons (eC (.int 1)) (aNil)))) (aCons (eRetD (eCall0 m_beyond (aCons (eVar 0) (aCons (eVar 1) (aNil))))) (aNil))))) (aCons (eTup (aCons (eBin dAddA (eBin dMul (eVar 2) (eVar 2)) (eBin dMul (eVar 3) (eVar 3))) (aCons (eC (.int 1)) (aNil)))) (aNil))))))
  (sRet (eTup (aCons (eRetD (eCall0 m_minus (aCons (eBin dIx (eVar 1) (eC (.int 0))) (aCons (eRetD (eCall0 m_times (aCons (eTup (aCons (eVar 2) (aCons (eC (.int 1)) (aNil)))) (aCons (eVar 5) (aNil))))) (aNil))))) (aCons (eRetD (eCall0 m_minus (aCons (eBin dIx (eVar 1) (eC (.int 1))) (aCons (eRetD (eCall0 m_times (aCons (eTup (aCons (eVar 3) (aCons (eC (.int 1)) (aNil)))) (aCons (eVar 5) (aNil))))) (aNil))))) (aNil))))))
def m_mirror_point : FnS := fnSem 6 [] s_mirror_point
theorem ok_mirror_point (S : Src K mg "mirror_point" t_mirror_point ["line", "point"]) (h_beyond : Cal P w K mg base 4 "beyond" ["line", "point"] [] m_beyond) (h_divided : Cal P w K mg base 3 "divided" ["one", "other"] [] m_divided) (h_minus : Cal P w K mg base 3 "minus" ["one", "other"] [] m_minus) (h_times : Cal P w K mg base 3 "times" ["one", "other"] [] m_times) : Cal P w K mg base 5 "mirror_point" ["line", "point"] [] m_mirror_point :=
  pd_cal (k := 4) [] S sc_mirror_point rfl (body := s_mirror_point) (fun f cdv A outer s H E hr => ⟨_, dss_cons (ds_asg (de_var 0) (dg_tup rfl (dgs_cons (dg_name 2 sc_mirror_point.nd) (dgs_cons (dg_name 3 sc_mirror_point.nd) (dgs_cons (dg_name 4 sc_mirror_point.nd) (dgs_nil))))))
  (dss_cons (ds_set sc_mirror_point.nd ((dc_cal0 h_divided (hr.mono (by first | exact Nat.le_refl _ | decide | omega)) (da_cons ((dc_cal0 h_times (hr.mono (by first | exact Nat.le_refl _ | decide | omega)) (da_cons (de_tup (da_cons (de_int) (da_cons (de_int) (da_nil)))) (da_cons ((dc_cal0 h_beyond (hr.mono (by first | exact Nat.le_refl _ | decide | omega)) (da_cons (de_var 0) (da_cons (de_var 1) (da_nil))) (aLen_cons (aLen_cons (aLen_nil)))).de) (da_nil))) (aLen_cons (aLen_cons (aLen_nil)))).de) (da_cons (de_tup (da_cons (de_bin op_addA v_addA (de_bin op_mulD v_mul (de_var 2) (de_var 2)) (de_bin op_mulD v_mul (de_var 3) (de_var 3))) (da_cons (de_int) (da_nil)))) (da_nil))) (aLen_cons (aLen_cons (aLen_nil)))).de) (i := 5))
  (dss_one (ds_ret (de_tup (da_cons ((dc_cal0 h_minus (hr.mono (by first | exact Nat.le_refl _ | decide | omega)) (da_cons (de_ix (de_var 1) (de_int)) (da_cons ((dc_cal0 h_times (hr.mono (by first | exact Nat.le_refl _ | decide | omega)) (da_cons (de_tup (da_cons (de_var 2) (da_cons (de_int) (da_nil)))) (da_cons (de_var 5) (da_nil))) (aLen_cons (aLen_cons (aLen_nil)))).de) (da_nil))) (aLen_cons (aLen_cons (aLen_nil)))).de) (da_cons ((dc_cal0 h_minus (hr.mono (by first | exact Nat.le_refl _ | decide | omega)) (da_cons (de_ix (de_var 1) (de_int)) (da_cons ((dc_cal0 h_times (hr.mono (by first | exact Nat.le_refl _ | decide | omega)) (da_cons (de_tup (da_cons (de_var 3) (da_cons (de_int) (da_nil)))) (da_cons (de_var 5) (da_nil))) (aLen_cons (aLen_cons (aLen_nil)))).de) (da_nil))) (aLen_cons (aLen_cons (aLen_nil)))).de) (da_nil)))))))⟩)
/-! ### lays_on -/
abbrev t_lays_on : Stmt := topS 19
theorem sc_lays_on : FnScope ["line", "one", "other"] ["line", "one", "other"] (defScope t_lays_on) := ⟨rfl, rfl, rfl, by decide +kernel, rfl, by decide +kernel, by decide +kernel⟩
def s_lays_on : FS := sRet (eBin (fun x y => (bEq x y).map .bool) (eRetD (eCall0 m_mirror_point (aCons (eVar 0) (aCons (eVar 1) (aNil))))) (eVar 2))
def m_lays_on : FnS := fnSem 3 [] s_lays_on
theorem ok_lays_on (S : Src K mg "lays_on" t_lays_on ["line", "one", "other"]) (h_mirror_point : Cal P w K mg base 5 "mirror_point" ["line", "point"] [] m_mirror_point) : Cal P w K mg base 6 "lays_on" ["line", "one", "other"] [] m_lays_on :=
  pd_cal (k := 5) [] S sc_lays_on rfl (body := s_lays_on) (fun f cdv A outer s H E hr => ⟨_, dss_one (ds_ret (de_cmp (op_eqB (hu_of' hr)) v_dat ((dc_cal0 h_mirror_point (hr.mono (by first | exact Nat.le_refl _ | decide | omega)) (da_cons (de_var 0) (da_cons (de_var 1) (da_nil))) (aLen_cons (aLen_cons (aLen_nil)))).de) (de_var 2)))⟩)
/-! ### line_on_itself -/
abbrev t_line_on_itself : Stmt := topS 18
theorem sc_line_on_itself : FnScope ["line", "point", "a", "b", "c"] ["line", "point"] (defScope t_line_on_itself) := ⟨rfl, rfl, rfl, by decide +kernel, rfl, by decide +kernel, by decide +kernel⟩
def s_line_on_itself : FS := sSeq (sAsg (eVar 0) (gTp 3 (gCn (gNm 2) (gCn (gNm 3) (gCn (gNm 4) (gNl))))))
  (sRet (eRetD (eCall0 m_in_order (aCons (eTup (aCons (eVar 3) (aCons (eC (.int 1)) (aNil)))) (aCons (eTup (aCons (eUn dNeg (eVar 2)) (aCons (eC (.int 1)) (aNil)))) (aCons (eRetD (eCall0 m_minus (aCons (eRetD (eCall0 m_times (aCons (eTup (aCons (eVar 3) (aCons (eC (.int 1)) (aNil)))) (aCons (eBin dIx (eVar 1) (eC (.int 0))) (aNil))))) (aCons (eRetD (eCall0 m_times (aCons (eTup (aCons (eVar 2) (aCons (eC (.int 1)) (aNil)))) (aCons (eBin dIx (eVar 1) (eC (.int 1))) (aNil))))) (aNil))))) (aNil)))))))
def m_line_on_itself : FnS := fnSem 5 [] s_line_on_itself
theorem ok_line_on_itself (S : Src K mg "line_on_itself" t_line_on_itself ["line", "point"]) (h_in_order : Cal P w K mg base 2 "in_order" ["a", "b", "c"] [] m_in_order) (h_minus : Cal P w K mg base 3 "minus" ["one", "other"] [] m_minus) (h_times : Cal P w K mg base 3 "times" ["one", "other"] [] m_times) : Cal P w K mg base 4 "line_on_itself" ["line", "point"] [] m_line_on_itself :=
  pd_cal (k := 3) [] S sc_line_on_itself rfl (body := s_line_on_itself) (fun f cdv A outer s H E hr => ⟨_, dss_cons (ds_asg (de_var 0) (dg_tup rfl (dgs_cons (dg_name 2 sc_line_on_itself.nd) (dgs_cons (dg_name 3 sc_line_on_itself.nd) (dgs_cons (dg_name 4 sc_line_on_itself.nd) (dgs_nil))))))
  (dss_one (ds_ret ((dc_cal0 h_in_order (hr.mono (by first | exact Nat.le_refl _ | decide | omega)) (da_cons (de_tup (da_cons (de_var 3) (da_cons (de_int) (da_nil)))) (da_cons (de_tup (da_cons (de_un un_neg v_neg (de_var 2)) (da_cons (de_int) (da_nil)))) (da_cons ((dc_cal0 h_minus (hr.mono (by first | exact Nat.le_refl _ | decide | omega)) (da_cons ((dc_cal0 h_times (hr.mono (by first | exact Nat.le_refl _ | decide | omega)) (da_cons (de_tup (da_cons (de_var 3) (da_cons (de_int) (da_nil)))) (da_cons (de_ix (de_var 1) (de_int)) (da_nil))) (aLen_cons (aLen_cons (aLen_nil)))).de) (da_cons ((dc_cal0 h_times (hr.mono (by first | exact Nat.le_refl _ | decide | omega)) (da_cons (de_tup (da_cons (de_var 2) (da_cons (de_int) (da_nil)))) (da_cons (de_ix (de_var 1) (de_int)) (da_nil))) (aLen_cons (aLen_cons (aLen_nil)))).de) (da_nil))) (aLen_cons (aLen_cons (aLen_nil)))).de) (da_nil)))) (aLen_cons (aLen_cons (aLen_cons (aLen_nil))))).de)))⟩)
/-! ### _law_large -/
abbrev t__law_large : Stmt := topS 42
theorem sc__law_large : FnScope ["one", "other", "third", "fourth", "line", "second", "due", "told"] ["one", "other", "third", "fourth"] (defScope t__law_large) := ⟨rfl, rfl, rfl, by decide +kernel, rfl, by decide +kernel, by decide +kernel⟩
def s__law_large : FS := sSeq (sSet 4 (eRetD (eCall0 m__law_through (aCons (eVar 0) (aCons (eVar 1) (aNil))))))
  (sSeq (sSet 5 (eRetD (eCall0 m__law_through (aCons (eVar 2) (aCons (eVar 3) (aNil))))))
  (sSeq (sIf (eOr (eNot (eTru (eRetD (eCall0 (m__law_same 12) (aCons (eRetD (eCall0 m_line_through (aCons (eVar 0) (aCons (eVar 1) (aNil))))) (aCons (eVar 4) (aNil))))))) (eNot (eTru (eRetD (eCall0 (m__law_same 12) (aCons (eRetD (eCall0 m_meeting (aCons (eVar 4) (aCons (eVar 5) (aNil))))) (aCons (eRetD (eCall0 m__law_at (aCons (eVar 4) (aCons (eVar 5) (aNil))))) (aNil)))))))) (sRet (eC (.bool false))) (sNx))
  (sSeq (sIf (eOr (eNot (eTru (eRetD (eCall0 (m__law_same 12) (aCons (eRetD (eCall0 m_side (aCons (eVar 4) (aCons (eVar 2) (aNil))))) (aCons (eRetD (eCall0 m__law_sign (aCons (eBin dIx (eRetD (eCall0 m__law_beyond (aCons (eVar 4) (aCons (eVar 2) (aNil))))) (eC (.int 0))) (aNil)))) (aNil))))))) (eNot (eTru (eRetD (eCall0 (m__law_same 12) (aCons (eRetD (eCall0 m_side (aCons (eVar 4) (aCons (eVar 0) (aNil))))) (aCons (eC (.int 0)) (aNil)))))))) (sRet (eC (.bool false))) (sNx))
  (sSeq (sIf (eOr (eNot (eTru (eRetD (eCall0 (m__law_same 12) (aCons (eRetD (eCall0 m_mirror_point (aCons (eVar 4) (aCons (eVar 2) (aNil))))) (aCons (eRetD (eCall0 m__law_mirror (aCons (eVar 4) (aCons (eVar 2) (aNil))))) (aNil))))))) (eNot (eTru (eRetD (eCall0 (m__law_same 12) (aCons (eRetD (eCall0 m_lays_on (aCons (eVar 4) (aCons (eVar 0) (aCons (eVar 0) (aNil)))))) (aCons (eC (.bool true)) (aNil)))))))) (sRet (eC (.bool false))) (sNx))
  (sSeq (sSet 6 (eRetD (eCall0 m__law_line (aCons (eTup (aCons (eBin dIx (eVar 4) (eC (.int 1))) (aCons (eC (.int 1)) (aNil)))) (aCons (eTup (aCons (eUn dNeg (eBin dIx (eVar 4) (eC (.int 0)))) (aCons (eC (.int 1)) (aNil)))) (aCons (eRetD (eCall0 m__law_less (aCons (eRetD (eCall0 m__law_mul (aCons (eTup (aCons (eBin dIx (eVar 4) (eC (.int 1))) (aCons (eC (.int 1)) (aNil)))) (aCons (eBin dIx (eVar 2) (eC (.int 0))) (aNil))))) (aCons (eRetD (eCall0 m__law_mul (aCons (eTup (aCons (eBin dIx (eVar 4) (eC (.int 0))) (aCons (eC (.int 1)) (aNil)))) (aCons (eBin dIx (eVar 2) (eC (.int 1))) (aNil))))) (aNil))))) (aNil)))))))
  (sSeq (sSet 7 (eRetD (eCall0 m_point_on_point (aCons (eVar 0) (aCons (eVar 1) (aNil))))))
  (sSeq (sIf (eOr (eNot (eTru (eRetD (eCall0 (m__law_same 12) (aCons (eRetD (eCall0 m_line_on_itself (aCons (eVar 4) (aCons (eVar 2) (aNil))))) (aCons (eVar 6) (aNil))))))) (eNot (eTru (eRetD (eCall0 (m__law_same 12) (aCons (eVar 7) (aCons (eRetD (eCall0 m_point_on_point (aCons (eVar 1) (aCons (eVar 0) (aNil))))) (aNil)))))))) (sRet (eC (.bool false))) (sNx))
  (sRet (eAndV (eBin (fun x y => (bEq x y).map .bool) (eRetD (eCall0 m__law_mirror (aCons (eVar 7) (aCons (eVar 0) (aNil))))) (eVar 1)) (eBin (fun x y => (bEq x y).map .bool) (eVar 7) (eRetD (eCall0 m__law_line (aCons (eTup (aCons (eBin dIx (eVar 7) (eC (.int 0))) (aCons (eC (.int 1)) (aNil)))) (aCons (eTup (aCons (eBin dIx (eVar 7) (eC (.int 1))) (aCons (eC (.int 1)) (aNil)))) (aCons (eTup (aCons (eBin dIx (eVar 7) (eC (.int 2))) (aCons (eC (.int 1)) (aNil)))) (aNil))))))))))))))))
def m__law_large : FnS := fnSem 8 [] s__law_large
theorem ok__law_large (S : Src K mg "_law_large" t__law_large ["one", "other", "third", "fourth"]) (h__law_at : Cal P w K mg base 3 "_law_at" ["one", "other"] [] m__law_at) (h__law_beyond : Cal P w K mg base 4 "_law_beyond" ["line", "point"] [] m__law_beyond) (h__law_less : Cal P w K mg base 3 "_law_less" ["one", "other"] [] m__law_less) (h__law_line : Cal P w K mg base 2 "_law_line" ["a", "b", "c"] [] m__law_line) (h__law_mirror : Cal P w K mg base 5 "_law_mirror" ["line", "point"] [] m__law_mirror) (h__law_mul : Cal P w K mg base 3 "_law_mul" ["one", "other"] [] m__law_mul) (h__law_same : Cal P w K mg base 12 "_law_same" ["actual", "due"] [] (m__law_same 12)) (h__law_sign : Cal P w K mg base 1 "_law_sign" ["number"] [] m__law_sign) (h__law_through : Cal P w K mg base 4 "_law_through" ["one", "other"] [] m__law_through) (h_lays_on : Cal P w K mg base 6 "lays_on" ["line", "one", "other"] [] m_lays_on) (h_line_on_itself : Cal P w K mg base 4 "line_on_itself" ["line", "point"] [] m_line_on_itself) (h_line_through : Cal P w K mg base 4 "line_through" ["one", "other"] [] m_line_through) (h_meeting : Cal P w K mg base 4 "meeting" ["one", "other"] [] m_meeting) (h_mirror_point : Cal P w K mg base 5 "mirror_point" ["line", "point"] [] m_mirror_point) (h_point_on_point : Cal P w K mg base 5 "point_on_point" ["one", "other"] [] m_point_on_point) (h_side : Cal P w K mg base 5 "side" ["line", "point"] [] m_side) : Cal P w K mg base 13 "_law_large" ["one", "other", "third", "fourth"] [] m__law_large :=
  pd_cal (k := 12) [] S sc__law_large rfl (body := s__law_large) (fun f cdv A outer s H E hr => ⟨_, dss_cons (ds_set sc__law_large.nd ((dc_cal0 h__law_through (hr.mono (by first | exact Nat.le_refl _ | decide | omega)) (da_cons (de_var 0) (da_cons (de_var 1) (da_nil))) (aLen_cons (aLen_cons (aLen_nil)))).de) (i := 4))
  (dss_cons (ds_set sc__law_large.nd ((dc_cal0 h__law_through (hr.mono (by first | exact Nat.le_refl _ | decide | omega)) (da_cons (de_var 2) (da_cons (de_var 3) (da_nil))) (aLen_cons (aLen_cons (aLen_nil)))).de) (i := 5))
  (dss_cons (ds_if ((dw_or (dt_not (dt_tru ((dc_cal0 h__law_same (hr.mono (by first | exact Nat.le_refl _ | decide | omega)) (da_cons ((dc_cal0 h_line_through (hr.mono (by first | exact Nat.le_refl _ | decide | omega)) (da_cons (de_var 0) (da_cons (de_var 1) (da_nil))) (aLen_cons (aLen_cons (aLen_nil)))).de) (da_cons (de_var 4) (da_nil))) (aLen_cons (aLen_cons (aLen_nil)))).de))) (dw_or1 (dt_not (dt_tru ((dc_cal0 h__law_same (hr.mono (by first | exact Nat.le_refl _ | decide | omega)) (da_cons ((dc_cal0 h_meeting (hr.mono (by first | exact Nat.le_refl _ | decide | omega)) (da_cons (de_var 4) (da_cons (de_var 5) (da_nil))) (aLen_cons (aLen_cons (aLen_nil)))).de) (da_cons ((dc_cal0 h__law_at (hr.mono (by first | exact Nat.le_refl _ | decide | omega)) (da_cons (de_var 4) (da_cons (de_var 5) (da_nil))) (aLen_cons (aLen_cons (aLen_nil)))).de) (da_nil))) (aLen_cons (aLen_cons (aLen_nil)))).de))))).dt) (dss_one (ds_ret (de_bl))) (dss_nil))
  (dss_cons (ds_if ((dw_or (dt_not (dt_tru ((dc_cal0 h__law_same (hr.mono (by first | exact Nat.le_refl _ | decide | omega)) (da_cons ((dc_cal0 h_side (hr.mono (by first | exact Nat.le_refl _ | decide | omega)) (da_cons (de_var 4) (da_cons (de_var 2) (da_nil))) (aLen_cons (aLen_cons (aLen_nil)))).de) (da_cons ((dc_cal0 h__law_sign (hr.mono (by first | exact Nat.le_refl _ | decide | omega)) (da_cons (de_ix ((dc_cal0 h__law_beyond (hr.mono (by first | exact Nat.le_refl _ | decide | omega)) (da_cons (de_var 4) (da_cons (de_var 2) (da_nil))) (aLen_cons (aLen_cons (aLen_nil)))).de) (de_int)) (da_nil)) (aLen_cons (aLen_nil))).de) (da_nil))) (aLen_cons (aLen_cons (aLen_nil)))).de))) (dw_or1 (dt_not (dt_tru ((dc_cal0 h__law_same (hr.mono (by first | exact Nat.le_refl _ | decide | omega)) (da_cons ((dc_cal0 h_side (hr.mono (by first | exact Nat.le_refl _ | decide | omega)) (da_cons (de_var 4) (da_cons (de_var 0) (da_nil))) (aLen_cons (aLen_cons (aLen_nil)))).de) (da_cons (de_int) (da_nil))) (aLen_cons (aLen_cons (aLen_nil)))).de))))).dt) (dss_one (ds_ret (de_bl))) (dss_nil))
  (dss_cons (ds_if ((dw_or (dt_not (dt_tru ((dc_cal0 h__law_same (hr.mono (by first | exact Nat.le_refl _ | decide | omega)) (da_cons ((dc_cal0 h_mirror_point (hr.mono (by first | exact Nat.le_refl _ | decide | omega)) (da_cons (de_var 4) (da_cons (de_var 2) (da_nil))) (aLen_cons (aLen_cons (aLen_nil)))).de) (da_cons ((dc_cal0 h__law_mirror (hr.mono (by first | exact Nat.le_refl _ | decide | omega)) (da_cons (de_var 4) (da_cons (de_var 2) (da_nil))) (aLen_cons (aLen_cons (aLen_nil)))).de) (da_nil))) (aLen_cons (aLen_cons (aLen_nil)))).de))) (dw_or1 (dt_not (dt_tru ((dc_cal0 h__law_same (hr.mono (by first | exact Nat.le_refl _ | decide | omega)) (da_cons ((dc_cal0 h_lays_on (hr.mono (by first | exact Nat.le_refl _ | decide | omega)) (da_cons (de_var 4) (da_cons (de_var 0) (da_cons (de_var 0) (da_nil)))) (aLen_cons (aLen_cons (aLen_cons (aLen_nil))))).de) (da_cons (de_bl) (da_nil))) (aLen_cons (aLen_cons (aLen_nil)))).de))))).dt) (dss_one (ds_ret (de_bl))) (dss_nil))
  (dss_cons (ds_set sc__law_large.nd ((dc_cal0 h__law_line (hr.mono (by first | exact Nat.le_refl _ | decide | omega)) (da_cons (de_tup (da_cons (de_ix (de_var 4) (de_int)) (da_cons (de_int) (da_nil)))) (da_cons (de_tup (da_cons (de_un un_neg v_neg (de_ix (de_var 4) (de_int))) (da_cons (de_int) (da_nil)))) (da_cons ((dc_cal0 h__law_less (hr.mono (by first | exact Nat.le_refl _ | decide | omega)) (da_cons ((dc_cal0 h__law_mul (hr.mono (by first | exact Nat.le_refl _ | decide | omega)) (da_cons (de_tup (da_cons (de_ix (de_var 4) (de_int)) (da_cons (de_int) (da_nil)))) (da_cons (de_ix (de_var 2) (de_int)) (da_nil))) (aLen_cons (aLen_cons (aLen_nil)))).de) (da_cons ((dc_cal0 h__law_mul (hr.mono (by first | exact Nat.le_refl _ | decide | omega)) (da_cons (de_tup (da_cons (de_ix (de_var 4) (de_int)) (da_cons (de_int) (da_nil)))) (da_cons (de_ix (de_var 2) (de_int)) (da_nil))) (aLen_cons (aLen_cons (aLen_nil)))).de) (da_nil))) (aLen_cons (aLen_cons (aLen_nil)))).de) (da_nil)))) (aLen_cons (aLen_cons (aLen_cons (aLen_nil))))).de) (i := 6))
  (dss_cons (ds_set sc__law_large.nd ((dc_cal0 h_point_on_point (hr.mono (by first | exact Nat.le_refl _ | decide | omega)) (da_cons (de_var 0) (da_cons (de_var 1) (da_nil))) (aLen_cons (aLen_cons (aLen_nil)))).de) (i := 7))
  (dss_cons (ds_if ((dw_or (dt_not (dt_tru ((dc_cal0 h__law_same (hr.mono (by first | exact Nat.le_refl _ | decide | omega)) (da_cons ((dc_cal0 h_line_on_itself (hr.mono (by first | exact Nat.le_refl _ | decide | omega)) (da_cons (de_var 4) (da_cons (de_var 2) (da_nil))) (aLen_cons (aLen_cons (aLen_nil)))).de) (da_cons (de_var 6) (da_nil))) (aLen_cons (aLen_cons (aLen_nil)))).de))) (dw_or1 (dt_not (dt_tru ((dc_cal0 h__law_same (hr.mono (by first | exact Nat.le_refl _ | decide | omega)) (da_cons (de_var 7) (da_cons ((dc_cal0 h_point_on_point (hr.mono (by first | exact Nat.le_refl _ | decide | omega)) (da_cons (de_var 1) (da_cons (de_var 0) (da_nil))) (aLen_cons (aLen_cons (aLen_nil)))).de) (da_nil))) (aLen_cons (aLen_cons (aLen_nil)))).de))))).dt) (dss_one (ds_ret (de_bl))) (dss_nil))
  (dss_one (ds_ret (de_and (de_cmp (op_eqB (hu_of' hr)) v_dat ((dc_cal0 h__law_mirror (hr.mono (by first | exact Nat.le_refl _ | decide | omega)) (da_cons (de_var 7) (da_cons (de_var 0) (da_nil))) (aLen_cons (aLen_cons (aLen_nil)))).de) (de_var 1)) (de_one (de_cmp (op_eqB (hu_of' hr)) v_dat (de_var 7) ((dc_cal0 h__law_line (hr.mono (by first | exact Nat.le_refl _ | decide | omega)) (da_cons (de_tup (da_cons (de_ix (de_var 7) (de_int)) (da_cons (de_int) (da_nil)))) (da_cons (de_tup (da_cons (de_ix (de_var 7) (de_int)) (da_cons (de_int) (da_nil)))) (da_cons (de_tup (da_cons (de_ix (de_var 7) (de_int)) (da_cons (de_int) (da_nil)))) (da_nil)))) (aLen_cons (aLen_cons (aLen_cons (aLen_nil))))).de)))))))))))))⟩)
/-! ### _law_on -/
abbrev t__law_on : Stmt := topS 38
theorem sc__law_on : FnScope ["line", "points", "point", "far", "image", "other"] ["line", "points"] (defScope t__law_on) := ⟨rfl, rfl, rfl, by decide +kernel, rfl, by decide +kernel, by decide +kernel⟩
def b__law_on_1 : FS := sIf (eNot (eTru (eRetD (eCall0 (m__law_same 12) (aCons (eRetD (eCall0 m_lays_on (aCons (eVar 0) (aCons (eVar 2) (aCons (eVar 5) (aNil)))))) (aCons (eBin (fun x y => (bEq x y).map .bool) (eVar 4) (eVar 5)) (aNil))))))) (sRet (eC (.bool false))) (sNx)
def l__law_on_1 : FS := sFor none [5] (iSq (eVar 1)) (gNm 5) b__law_on_1
def b__law_on_2 : FS := sSeq (sSet 3 (eBin dIx (eRetD (eCall0 m__law_beyond (aCons (eVar 0) (aCons (eVar 2) (aNil))))) (eC (.int 0))))
  (sSeq (sSet 4 (eRetD (eCall0 m__law_mirror (aCons (eVar 0) (aCons (eVar 2) (aNil))))))
  (sSeq (sIf (eOr (eNot (eTru (eRetD (eCall0 (m__law_same 12) (aCons (eRetD (eCall0 m_side (aCons (eVar 0) (aCons (eVar 2) (aNil))))) (aCons (eRetD (eCall0 m__law_sign (aCons (eVar 3) (aNil)))) (aNil))))))) (eNot (eTru (eRetD (eCall0 (m__law_same 12) (aCons (eRetD (eCall0 m_mirror_point (aCons (eVar 0) (aCons (eVar 2) (aNil))))) (aCons (eVar 4) (aNil)))))))) (sRet (eC (.bool false))) (sNx))
  (sSeq (sIf (eOr (eNot (eTru (eRetD (eCall0 (m__law_same 12) (aCons (eRetD (eCall0 m_side (aCons (eVar 0) (aCons (eVar 4) (aNil))))) (aCons (eUn dNeg (eRetD (eCall0 m__law_sign (aCons (eVar 3) (aNil))))) (aNil))))))) (eNot (eTru (eRetD (eCall0 (m__law_same 12) (aCons (eRetD (eCall0 m_mirror_point (aCons (eVar 0) (aCons (eVar 4) (aNil))))) (aCons (eVar 2) (aNil)))))))) (sRet (eC (.bool false))) (sNx))
  (sSeq (sIf (eOr (eNot (eTru (eRetD (eCall0 (m__law_same 12) (aCons (eRetD (eCall0 m_lays_on (aCons (eVar 0) (aCons (eVar 2) (aCons (eVar 4) (aNil)))))) (aCons (eC (.bool true)) (aNil))))))) (eTst (eBin (fun x y => (bNe x y).map .bool) (eBin (fun x y => (bEq x y).map .bool) (eVar 4) (eVar 2)) (eBin (fun x y => (bEq x y).map .bool) (eVar 3) (eC (.int 0)))))) (sRet (eC (.bool false))) (sNx))
  (l__law_on_1)))))
def l__law_on_2 : FS := sFor none [2, 3, 4, 5] (iSq (eVar 1)) (gNm 2) b__law_on_2
def s__law_on : FS := sSeq (l__law_on_2)
  (sRet (eC (.bool true)))
def m__law_on : FnS := fnSem 6 [] s__law_on
theorem ok__law_on (S : Src K mg "_law_on" t__law_on ["line", "points"]) (h__law_beyond : Cal P w K mg base 4 "_law_beyond" ["line", "point"] [] m__law_beyond) (h__law_mirror : Cal P w K mg base 5 "_law_mirror" ["line", "point"] [] m__law_mirror) (h__law_same : Cal P w K mg base 12 "_law_same" ["actual", "due"] [] (m__law_same 12)) (h__law_sign : Cal P w K mg base 1 "_law_sign" ["number"] [] m__law_sign) (h_lays_on : Cal P w K mg base 6 "lays_on" ["line", "one", "other"] [] m_lays_on) (h_mirror_point : Cal P w K mg base 5 "mirror_point" ["line", "point"] [] m_mirror_point) (h_side : Cal P w K mg base 5 "side" ["line", "point"] [] m_side) : Cal P w K mg base 13 "_law_on" ["line", "points"] [] m__law_on :=
  pd_cal (k := 12) [] S sc__law_on rfl (body := s__law_on) (fun f cdv A outer s H E hr => ⟨_, dss_cons (ds_for [2, 3, 4, 5] PassesOwn.never rfl (di_sq (de_var 1)) (dg_name 2 sc__law_on.nd) (dss_cons (ds_set sc__law_on.nd (de_ix ((dc_cal0 h__law_beyond (hr.mono (by first | exact Nat.le_refl _ | decide | omega)) (da_cons (de_var 0) (da_cons (de_var 2) (da_nil))) (aLen_cons (aLen_cons (aLen_nil)))).de) (de_int)) (i := 3))
  (dss_cons (ds_set sc__law_on.nd ((dc_cal0 h__law_mirror (hr.mono (by first | exact Nat.le_refl _ | decide | omega)) (da_cons (de_var 0) (da_cons (de_var 2) (da_nil))) (aLen_cons (aLen_cons (aLen_nil)))).de) (i := 4))
  (dss_cons (ds_if ((dw_or (dt_not (dt_tru ((dc_cal0 h__law_same (hr.mono (by first | exact Nat.le_refl _ | decide | omega)) (da_cons ((dc_cal0 h_side (hr.mono (by first | exact Nat.le_refl _ | decide | omega)) (da_cons (de_var 0) (da_cons (de_var 2) (da_nil))) (aLen_cons (aLen_cons (aLen_nil)))).de) (da_cons ((dc_cal0 h__law_sign (hr.mono (by first | exact Nat.le_refl _ | decide | omega)) (da_cons (de_var 3) (da_nil)) (aLen_cons (aLen_nil))).de) (da_nil))) (aLen_cons (aLen_cons (aLen_nil)))).de))) (dw_or1 (dt_not (dt_tru ((dc_cal0 h__law_same (hr.mono (by first | exact Nat.le_refl _ | decide | omega)) (da_cons ((dc_cal0 h_mirror_point (hr.mono (by first | exact Nat.le_refl _ | decide | omega)) (da_cons (de_var 0) (da_cons (de_var 2) (da_nil))) (aLen_cons (aLen_cons (aLen_nil)))).de) (da_cons (de_var 4) (da_nil))) (aLen_cons (aLen_cons (aLen_nil)))).de))))).dt) (dss_one (ds_ret (de_bl))) (dss_nil))
  (dss_cons (ds_if ((dw_or (dt_not (dt_tru ((dc_cal0 h__law_same (hr.mono (by first | exact Nat.le_refl _ | decide | omega)) (da_cons ((dc_cal0 h_side (hr.mono (by first | exact Nat.le_refl _ | decide | omega)) (da_cons (de_var 0) (da_cons (de_var 4) (da_nil))) (aLen_cons (aLen_cons (aLen_nil)))).de) (da_cons (de_un un_neg v_neg ((dc_cal0 h__law_sign (hr.mono (by first | exact Nat.le_refl _ | decide | omega)) (da_cons (de_var 3) (da_nil)) (aLen_cons (aLen_nil))).de)) (da_nil))) (aLen_cons (aLen_cons (aLen_nil)))).de))) (dw_or1 (dt_not (dt_tru ((dc_cal0 h__law_same (hr.mono (by first | exact Nat.le_refl _ | decide | omega)) (da_cons ((dc_cal0 h_mirror_point (hr.mono (by first | exact Nat.le_refl _ | decide | omega)) (da_cons (de_var 0) (da_cons (de_var 4) (da_nil))) (aLen_cons (aLen_cons (aLen_nil)))).de) (da_cons (de_var 2) (da_nil))) (aLen_cons (aLen_cons (aLen_nil)))).de))))).dt) (dss_one (ds_ret (de_bl))) (dss_nil))
  (dss_cons (ds_if ((dw_or (dt_not (dt_tru ((dc_cal0 h__law_same (hr.mono (by first | exact Nat.le_refl _ | decide | omega)) (da_cons ((dc_cal0 h_lays_on (hr.mono (by first | exact Nat.le_refl _ | decide | omega)) (da_cons (de_var 0) (da_cons (de_var 2) (da_cons (de_var 4) (da_nil)))) (aLen_cons (aLen_cons (aLen_cons (aLen_nil))))).de) (da_cons (de_bl) (da_nil))) (aLen_cons (aLen_cons (aLen_nil)))).de))) (dw_or1 (dt_cmp (op_neB (hu_of' hr)) v_dat (de_cmp (op_eqB (hu_of' hr)) v_dat (de_var 4) (de_var 2)) (de_cmp (op_eqB (hu_of' hr)) v_dat (de_var 3) (de_int))))).dt) (dss_one (ds_ret (de_bl))) (dss_nil))
  (dss_one (ds_for [5] PassesOwn.never rfl (di_sq (de_var 1)) (dg_name 5 sc__law_on.nd) (dss_one (ds_if (dt_not (dt_tru ((dc_cal0 h__law_same (hr.mono (by first | exact Nat.le_refl _ | decide | omega)) (da_cons ((dc_cal0 h_lays_on (hr.mono (by first | exact Nat.le_refl _ | decide | omega)) (da_cons (de_var 0) (da_cons (de_var 2) (da_cons (de_var 5) (da_nil)))) (aLen_cons (aLen_cons (aLen_cons (aLen_nil))))).de) (da_cons (de_cmp (op_eqB (hu_of' hr)) v_dat (de_var 4) (de_var 5)) (da_nil))) (aLen_cons (aLen_cons (aLen_nil)))).de))) (dss_one (ds_ret (de_bl))) (dss_nil)))))))))))
  (dss_one (ds_ret (de_bl)))⟩)
/-! ### _law_item -/
abbrev t__law_item : Stmt := topS 34
theorem sc__law_item : FnScope ["draws", "cell", "is_large", "style"] ["draws", "cell", "is_large"] (defScope t__law_item) := ⟨rfl, rfl, rfl, by decide +kernel, rfl, by decide +kernel, by decide +kernel⟩
def s__law_item : FS := sSeq (sSet 3 (eRetD (eCall1 0 0 m__law_take (rIo 0 (rCons (eC (.int 3)) (rNil))))))
  (sSeq (sIf (eAnd (eTru (eVar 2)) (eTst (eBin (fun x y => (bEq x y).map .bool) (eVar 3) (eC (.int 0))))) (sRet (eRetD (eCall0 m__law_frac (aCons (eBin dAddA (eBin dSub (eBin dMul (eRetD (eCall1 0 0 m__law_take (rIo 0 (rCons (eC (.int 1000)) (rNil))))) (eC (.int 1000))) (eC (.int 499983))) (eRetD (eCall1 0 0 m__law_take (rIo 0 (rCons (eC (.int 1000)) (rNil)))))) (aCons (eBin dAddA (eC (.int 1)) (eBin dMul (eC (.int 2)) (eRetD (eCall1 0 0 m__law_take (rIo 0 (rCons (eC (.int 1000)) (rNil))))))) (aNil)))))) (sNx))
  (sSeq (sIf (eAnd (eTru (eVar 2)) (eTst (eBin (fun x y => (bEq x y).map .bool) (eVar 3) (eC (.int 1))))) (sRet (eTup (aCons (eBin dMul (eBin dMod (eCB cInt (aCons (eVar 1) (aNil))) (eBin dPow (eC (.int 10)) (eC (.int 9)))) (eBin dIx (eFrz (eLst (aCons (eC (.int 1)) (aCons (eUn dNeg (eC (.int 1))) (aNil))))) (eRetD (eCall1 0 0 m__law_take (rIo 0 (rCons (eC (.int 2)) (rNil))))))) (aCons (eC (.int 1)) (aNil))))) (sNx))
  (sSeq (sIf (eTst (eBin (fun x y => (bLt x y).map .bool) (eVar 3) (eC (.int 2)))) (sRet (eTup (aCons (eBin dSub (eRetD (eCall1 0 0 m__law_take (rIo 0 (rCons (eC (.int 11)) (rNil))))) (eC (.int 5))) (aCons (eC (.int 1)) (aNil))))) (sNx))
  (sRet (eRetD (eCall0 m__law_frac (aCons (eBin dSub (eRetD (eCall1 0 0 m__law_take (rIo 0 (rCons (eC (.int 81)) (rNil))))) (eC (.int 40))) (aCons (eBin dAddA (eC (.int 1)) (eRetD (eCall1 0 0 m__law_take (rIo 0 (rCons (eC (.int 12)) (rNil)))))) (aNil)))))))))
def m__law_item : FnS := fnSem 4 [0] s__law_item
theorem ok__law_item (S : Src K mg "_law_item" t__law_item ["draws", "cell", "is_large"]) (h__law_frac : Cal P w K mg base 2 "_law_frac" ["n", "d"] [] m__law_frac) (h__law_take : Cal P w K mg base 1 "_law_take" ["draws", "many"] [0] m__law_take) (z_int : mg "int" = none) : Cal P w K mg base 3 "_law_item" ["draws", "cell", "is_large"] [0] m__law_item :=
  pd_cal (k := 2) [0] S sc__law_item rfl (body := s__law_item) (fun f cdv A outer s H E hr => ⟨_, dss_cons (ds_set sc__law_item.nd ((dc_cal1 h__law_take (hr.mono (by first | exact Nat.le_refl _ | decide | omega)) (j := 0) (dr_io (dr_cons (de_int) (dr_nil)))).de) (i := 3))
  (dss_cons (ds_if ((dw_and (dt_tru (de_var 2)) (dw_and1 (dt_cmp (op_eqB (hu_of' hr)) v_dat (de_var 3) (de_int)))).dt) (dss_one (ds_ret ((dc_cal0 h__law_frac (hr.mono (by first | exact Nat.le_refl _ | decide | omega)) (da_cons (de_bin op_addA v_addA (de_bin op_sub v_sub (de_bin op_mulD v_mul ((dc_cal1 h__law_take (hr.mono (by first | exact Nat.le_refl _ | decide | omega)) (j := 0) (dr_io (dr_cons (de_int) (dr_nil)))).de) (de_int)) (de_int)) ((dc_cal1 h__law_take (hr.mono (by first | exact Nat.le_refl _ | decide | omega)) (j := 0) (dr_io (dr_cons (de_int) (dr_nil)))).de)) (da_cons (de_bin op_addA v_addA (de_int) (de_bin op_mulD v_mul (de_int) ((dc_cal1 h__law_take (hr.mono (by first | exact Nat.le_refl _ | decide | omega)) (j := 0) (dr_io (dr_cons (de_int) (dr_nil)))).de))) (da_nil))) (aLen_cons (aLen_cons (aLen_nil)))).de))) (dss_nil))
  (dss_cons (ds_if ((dw_and (dt_tru (de_var 2)) (dw_and1 (dt_cmp (op_eqB (hu_of' hr)) v_dat (de_var 3) (de_int)))).dt) (dss_one (ds_ret (de_tup (da_cons (de_bin op_mulD v_mul (de_bin op_modN v_mod (de_callTy call_intD a_int z_int (da_cons (de_var 1) (da_nil))) (de_bin op_powD v_pow (de_int) (de_int))) (de_ix ((dn_lst (da_cons (de_int) (da_cons (de_un un_neg v_neg (de_int)) (da_nil)))).de) ((dc_cal1 h__law_take (hr.mono (by first | exact Nat.le_refl _ | decide | omega)) (j := 0) (dr_io (dr_cons (de_int) (dr_nil)))).de))) (da_cons (de_int) (da_nil)))))) (dss_nil))
  (dss_cons (ds_if (dt_cmp (op_ltB (hu_of' hr)) v_dat (de_var 3) (de_int)) (dss_one (ds_ret (de_tup (da_cons (de_bin op_sub v_sub ((dc_cal1 h__law_take (hr.mono (by first | exact Nat.le_refl _ | decide | omega)) (j := 0) (dr_io (dr_cons (de_int) (dr_nil)))).de) (de_int)) (da_cons (de_int) (da_nil)))))) (dss_nil))
  (dss_one (ds_ret ((dc_cal0 h__law_frac (hr.mono (by first | exact Nat.le_refl _ | decide | omega)) (da_cons (de_bin op_sub v_sub ((dc_cal1 h__law_take (hr.mono (by first | exact Nat.le_refl _ | decide | omega)) (j := 0) (dr_io (dr_cons (de_int) (dr_nil)))).de) (de_int)) (da_cons (de_bin op_addA v_addA (de_int) ((dc_cal1 h__law_take (hr.mono (by first | exact Nat.le_refl _ | decide | omega)) (j := 0) (dr_io (dr_cons (de_int) (dr_nil)))).de)) (da_nil))) (aLen_cons (aLen_cons (aLen_nil)))).de))))))⟩)
/-! ### _law_point -/
abbrev t__law_point : Stmt := topS 35
theorem sc__law_point : FnScope ["draws", "cell", "others", "is_large", "point", "k"] ["draws", "cell", "others", "is_large"] (defScope t__law_point) := ⟨rfl, rfl, rfl, by decide +kernel, rfl, by decide +kernel, by decide +kernel⟩
def b__law_point_1 : FS := sIf (eTst (eBin (fun x y => (bIn x y).map .bool) (eVar 4) (eVar 2))) (sSet 4 (eTup (aCons (eBin dIx (eVar 4) (eC (.int 0))) (aCons (eRetD (eCall0 m__law_add (aCons (eBin dIx (eVar 4) (eC (.int 1))) (aCons (eTup (aCons (eC (.int 1)) (aCons (eC (.int 1)) (aNil)))) (aNil))))) (aNil))))) (sNx)
def l__law_point_1 : FS := sFor none [5] (iR1 (aCons (eBin dAddA (eCB cLen (aCons (eVar 2) (aNil))) (eC (.int 1))) (aNil))) (gNm 5) b__law_point_1
def s__law_point : FS := sSeq (sSet 4 (eTup (aCons (eRetD (eCall1 0 0 m__law_item (rIo 0 (rCons (eVar 1) (rCons (eVar 3) (rNil)))))) (aCons (eRetD (eCall1 0 0 m__law_item (rIo 0 (rCons (eVar 1) (rCons (eVar 3) (rNil)))))) (aNil)))))
  (sSeq (sIf (eAnd (eTst (eBin (fun x y => (bEq x y).map .bool) (eRetD (eCall1 0 0 m__law_take (rIo 0 (rCons (eC (.int 4)) (rNil))))) (eC (.int 0)))) (eTst (eBin (fun x y => (bGt x y).map .bool) (eCB cLen (aCons (eVar 2) (aNil))) (eC (.int 0))))) (sSet 4 (eTup (aCons (eBin dIx (eBin dIx (eVar 2) (eC (.int 0))) (eC (.int 0))) (aCons (eBin dIx (eVar 4) (eC (.int 1))) (aNil))))) (sNx))
  (sSeq (l__law_point_1)
  (sRet (eVar 4))))
def m__law_point : FnS := fnSem 6 [0] s__law_point
theorem ok__law_point (S : Src K mg "_law_point" t__law_point ["draws", "cell", "others", "is_large"]) (h__law_add : Cal P w K mg base 3 "_law_add" ["one", "other"] [] m__law_add) (h__law_item : Cal P w K mg base 3 "_law_item" ["draws", "cell", "is_large"] [0] m__law_item) (h__law_take : Cal P w K mg base 1 "_law_take" ["draws", "many"] [0] m__law_take) (z_len : mg "len" = none) (z_range : mg "range" = none) : Cal P w K mg base 4 "_law_point" ["draws", "cell", "others", "is_large"] [0] m__law_point :=
  pd_cal (k := 3) [0] S sc__law_point rfl (body := s__law_point) (fun f cdv A outer s H E hr => ⟨_, dss_cons (ds_set sc__law_point.nd (de_tup (da_cons ((dc_cal1 h__law_item (hr.mono (by first | exact Nat.le_refl _ | decide | omega)) (j := 0) (dr_io (dr_cons (de_var 1) (dr_cons (de_var 3) (dr_nil))))).de) (da_cons ((dc_cal1 h__law_item (hr.mono (by first | exact Nat.le_refl _ | decide | omega)) (j := 0) (dr_io (dr_cons (de_var 1) (dr_cons (de_var 3) (dr_nil))))).de) (da_nil)))) (i := 4))
  (dss_cons (ds_if ((dw_and (dt_cmp (op_eqB (hu_of' hr)) v_dat ((dc_cal1 h__law_take (hr.mono (by first | exact Nat.le_refl _ | decide | omega)) (j := 0) (dr_io (dr_cons (de_int) (dr_nil)))).de) (de_int)) (dw_and1 (dt_cmp (op_gtB (hu_of' hr)) v_dat (de_callB call_len a_len z_len (da_cons (de_var 2) (da_nil))) (de_int)))).dt) (dss_one (ds_set sc__law_point.nd (de_tup (da_cons (de_ix (de_ix (de_var 2) (de_int)) (de_int)) (da_cons (de_ix (de_var 4) (de_int)) (da_nil)))) (i := 4))) (dss_nil))
  (dss_cons (ds_for [5] PassesOwn.never rfl (di_range1 (da_cons (de_bin op_addA v_addA (de_callB call_len a_len z_len (da_cons (de_var 2) (da_nil))) (de_int)) (da_nil)) z_range) (dg_name 5 sc__law_point.nd) (dss_one (ds_if (dt_cmp (op_inB (hu_of' hr)) v_dat (de_var 4) (de_var 2)) (dss_one (ds_set sc__law_point.nd (de_tup (da_cons (de_ix (de_var 4) (de_int)) (da_cons ((dc_cal0 h__law_add (hr.mono (by first | exact Nat.le_refl _ | decide | omega)) (da_cons (de_ix (de_var 4) (de_int)) (da_cons (de_tup (da_cons (de_int) (da_cons (de_int) (da_nil)))) (da_nil))) (aLen_cons (aLen_cons (aLen_nil)))).de) (da_nil)))) (i := 4))) (dss_nil))))
  (dss_one (ds_ret (de_var 4)))))⟩)
/-! ### two_points -/
abbrev t_two_points : Stmt := topS 14
theorem sc_two_points : FnScope ["line", "a", "b", "c", "one"] ["line"] (defScope t_two_points) := ⟨rfl, rfl, rfl, by decide +kernel, rfl, by decide +kernel, by decide +kernel⟩
def s_two_points : FS := sSeq (sAsg (eVar 0) (gTp 3 (gCn (gNm 1) (gCn (gNm 2) (gCn (gNm 3) (gNl))))))
  (sSeq (sSet 4 (eTup (aCons (eRetD (eCall0 m_fraction (aCons (eBin dMul (eVar 1) (eVar 3)) (aCons (eBin dAddA (eBin dMul (eVar 1) (eVar 1)) (eBin dMul (eVar 2) (eVar 2))) (aNil))))) (aCons (eRetD (eCall0 m_fraction (aCons (eBin dMul (eVar 2) (eVar 3)) (aCons (eBin dAddA (eBin dMul (eVar 1) (eVar 1)) (eBin dMul (eVar 2) (eVar 2))) (aNil))))) (aNil)))))
  (sRet (eTup (aCons (eVar 4) (aCons (eTup (aCons (eRetD (eCall0 m_plus (aCons (eBin dIx (eVar 4) (eC (.int 0))) (aCons (eTup (aCons (eVar 2) (aCons (eC (.int 1)) (aNil)))) (aNil))))) (aCons (eRetD (eCall0 m_minus (aCons (eBin dIx (eVar 4) (eC (.int 1))) (aCons (eTup (aCons (eVar 1) (aCons (eC (.int 1)) (aNil)))) (aNil))))) (aNil)))) (aNil))))))
def m_two_points : FnS := fnSem 5 [] s_two_points
theorem ok_two_points (S : Src K mg "two_points" t_two_points ["line"]) (h_fraction : Cal P w K mg base 2 "fraction" ["n", "d"] [] m_fraction) (h_minus : Cal P w K mg base 3 "minus" ["one", "other"] [] m_minus) (h_plus : Cal P w K mg base 3 "plus" ["one", "other"] [] m_plus) : Cal P w K mg base 4 "two_points" ["line"] [] m_two_points :=
  pd_cal (k := 3) [] S sc_two_points rfl (body := s_two_points) (fun f cdv A outer s H E hr => ⟨_, dss_cons (ds_asg (de_var 0) (dg_tup rfl (dgs_cons (dg_name 1 sc_two_points.nd) (dgs_cons (dg_name 2 sc_two_points.nd) (dgs_cons (dg_name 3 sc_two_points.nd) (dgs_nil))))))
  (dss_cons (ds_set sc_two_points.nd (de_tup (da_cons ((dc_cal0 h_fraction (hr.mono (by first | exact Nat.le_refl _ | decide | omega)) (da_cons (de_bin op_mulD v_mul (de_var 1) (de_var 3)) (da_cons (de_bin op_addA v_addA (de_bin op_mulD v_mul (de_var 1) (de_var 1)) (de_bin op_mulD v_mul (de_var 2) (de_var 2))) (da_nil))) (aLen_cons (aLen_cons (aLen_nil)))).de) (da_cons ((dc_cal0 h_fraction (hr.mono (by first | exact Nat.le_refl _ | decide | omega)) (da_cons (de_bin op_mulD v_mul (de_var 2) (de_var 3)) (da_cons (de_bin op_addA v_addA (de_bin op_mulD v_mul (de_var 1) (de_var 1)) (de_bin op_mulD v_mul (de_var 2) (de_var 2))) (da_nil))) (aLen_cons (aLen_cons (aLen_nil)))).de) (da_nil)))) (i := 4))
  (dss_one (ds_ret (de_tup (da_cons (de_var 4) (da_cons (de_tup (da_cons ((dc_cal0 h_plus (hr.mono (by first | exact Nat.le_refl _ | decide | omega)) (da_cons (de_ix (de_var 4) (de_int)) (da_cons (de_tup (da_cons (de_var 2) (da_cons (de_int) (da_nil)))) (da_nil))) (aLen_cons (aLen_cons (aLen_nil)))).de) (da_cons ((dc_cal0 h_minus (hr.mono (by first | exact Nat.le_refl _ | decide | omega)) (da_cons (de_ix (de_var 4) (de_int)) (da_cons (de_tup (da_cons (de_var 1) (da_cons (de_int) (da_nil)))) (da_nil))) (aLen_cons (aLen_cons (aLen_nil)))).de) (da_nil)))) (da_nil)))))))⟩)
/-! ### mirror_line -/
abbrev t_mirror_line : Stmt := topS 15
theorem sc_mirror_line : FnScope ["line", "other", "one", "two"] ["line", "other"] (defScope t_mirror_line) := ⟨rfl, rfl, rfl, by decide +kernel, rfl, by decide +kernel, by decide +kernel⟩
def s_mirror_line : FS := sSeq (sAsg (eRetD (eCall0 m_two_points (aCons (eVar 1) (aNil)))) (gTp 2 (gCn (gNm 2) (gCn (gNm 3) (gNl)))))
  (sRet (eRetD (eCall0 m_line_through (aCons (eRetD (eCall0 m_mirror_point (aCons (eVar 0) (aCons (eVar 2) (aNil))))) (aCons (eRetD (eCall0 m_mirror_point (aCons (eVar 0) (aCons (eVar 3) (aNil))))) (aNil))))))
def m_mirror_line : FnS := fnSem 4 [] s_mirror_line
theorem ok_mirror_line (S : Src K mg "mirror_line" t_mirror_line ["line", "other"]) (h_line_through : Cal P w K mg base 4 "line_through" ["one", "other"] [] m_line_through) (h_mirror_point : Cal P w K mg base 5 "mirror_point" ["line", "point"] [] m_mirror_point) (h_two_points : Cal P w K mg base 4 "two_points" ["line"] [] m_two_points) : Cal P w K mg base 6 "mirror_line" ["line", "other"] [] m_mirror_line :=
  pd_cal (k := 5) [] S sc_mirror_line rfl (body := s_mirror_line) (fun f cdv A outer s H E hr => ⟨_, dss_cons (ds_asg ((dc_cal0 h_two_points (hr.mono (by first | exact Nat.le_refl _ | decide | omega)) (da_cons (de_var 1) (da_nil)) (aLen_cons (aLen_nil))).de) (dg_tup rfl (dgs_cons (dg_name 2 sc_mirror_line.nd) (dgs_cons (dg_name 3 sc_mirror_line.nd) (dgs_nil)))))
  (dss_one (ds_ret ((dc_cal0 h_line_through (hr.mono (by first | exact Nat.le_refl _ | decide | omega)) (da_cons ((dc_cal0 h_mirror_point (hr.mono (by first | exact Nat.le_refl _ | decide | omega)) (da_cons (de_var 0) (da_cons (de_var 2) (da_nil))) (aLen_cons (aLen_cons (aLen_nil)))).de) (da_cons ((dc_cal0 h_mirror_point (hr.mono (by first | exact Nat.le_refl _ | decide | omega)) (da_cons (de_var 0) (da_cons (de_var 3) (da_nil))) (aLen_cons (aLen_cons (aLen_nil)))).de) (da_nil))) (aLen_cons (aLen_cons (aLen_nil)))).de)))⟩)
/-! ### _law_lines -/
abbrev t__law_lines : Stmt := topS 40
theorem sc__law_lines : FnScope ["one", "other", "points", "told"] ["one", "other", "points"] (defScope t__law_lines) := ⟨rfl, rfl, rfl, by decide +kernel, rfl, by decide +kernel, by decide +kernel⟩
def s__law_lines : FS := sSeq (sSet 3 (eRetD (eCall0 m_mirror_line (aCons (eVar 0) (aCons (eVar 1) (aNil))))))
  (sSeq (sIf (eOr (eNot (eTru (eRetD (eCall0 (m__law_same 12) (aCons (eRetD (eCall0 m_meeting (aCons (eVar 0) (aCons (eVar 1) (aNil))))) (aCons (eRetD (eCall0 m__law_at (aCons (eVar 0) (aCons (eVar 1) (aNil))))) (aNil))))))) (eNot (eTru (eRetD (eCall0 (m__law_same 12) (aCons (eRetD (eCall0 m_meeting (aCons (eVar 1) (aCons (eVar 0) (aNil))))) (aCons (eRetD (eCall0 m__law_at (aCons (eVar 0) (aCons (eVar 1) (aNil))))) (aNil)))))))) (sRet (eC (.bool false))) (sNx))
  (sSeq (sIf (eNot (eTru (eRetD (eCall0 (m__law_same 12) (aCons (eVar 3) (aCons (eRetD (eCall0 m__law_through (aCons (eRetD (eCall0 m__law_mirror (aCons (eVar 0) (aCons (eBin dIx (eVar 2) (eC (.int 0))) (aNil))))) (aCons (eRetD (eCall0 m__law_mirror (aCons (eVar 0) (aCons (eBin dIx (eVar 2) (eC (.int 1))) (aNil))))) (aNil))))) (aNil))))))) (sRet (eC (.bool false))) (sNx))
  (sRet (eRetD (eCall0 (m__law_same 12) (aCons (eRetD (eCall0 m_mirror_line (aCons (eVar 0) (aCons (eVar 3) (aNil))))) (aCons (eVar 1) (aNil))))))))
def m__law_lines : FnS := fnSem 4 [] s__law_lines
theorem ok__law_lines (S : Src K mg "_law_lines" t__law_lines ["one", "other", "points"]) (h__law_at : Cal P w K mg base 3 "_law_at" ["one", "other"] [] m__law_at) (h__law_mirror : Cal P w K mg base 5 "_law_mirror" ["line", "point"] [] m__law_mirror) (h__law_same : Cal P w K mg base 12 "_law_same" ["actual", "due"] [] (m__law_same 12)) (h__law_through : Cal P w K mg base 4 "_law_through" ["one", "other"] [] m__law_through) (h_meeting : Cal P w K mg base 4 "meeting" ["one", "other"] [] m_meeting) (h_mirror_line : Cal P w K mg base 6 "mirror_line" ["line", "other"] [] m_mirror_line) : Cal P w K mg base 13 "_law_lines" ["one", "other", "points"] [] m__law_lines :=
  pd_cal (k := 12) [] S sc__law_lines rfl (body := s__law_lines) (fun f cdv A outer s H E hr => ⟨_, dss_cons (ds_set sc__law_lines.nd ((dc_cal0 h_mirror_line (hr.mono (by first | exact Nat.le_refl _ | decide | omega)) (da_cons (de_var 0) (da_cons (de_var 1) (da_nil))) (aLen_cons (aLen_cons (aLen_nil)))).de) (i := 3))
  (dss_cons (ds_if ((dw_or (dt_not (dt_tru ((dc_cal0 h__law_same (hr.mono (by first | exact Nat.le_refl _ | decide | omega)) (da_cons ((dc_cal0 h_meeting (hr.mono (by first | exact Nat.le_refl _ | decide | omega)) (da_cons (de_var 0) (da_cons (de_var 1) (da_nil))) (aLen_cons (aLen_cons (aLen_nil)))).de) (da_cons ((dc_cal0 h__law_at (hr.mono (by first | exact Nat.le_refl _ | decide | omega)) (da_cons (de_var 0) (da_cons (de_var 1) (da_nil))) (aLen_cons (aLen_cons (aLen_nil)))).de) (da_nil))) (aLen_cons (aLen_cons (aLen_nil)))).de))) (dw_or1 (dt_not (dt_tru ((dc_cal0 h__law_same (hr.mono (by first | exact Nat.le_refl _ | decide | omega)) (da_cons ((dc_cal0 h_meeting (hr.mono (by first | exact Nat.le_refl _ | decide | omega)) (da_cons (de_var 1) (da_cons (de_var 0) (da_nil))) (aLen_cons (aLen_cons (aLen_nil)))).de) (da_cons ((dc_cal0 h__law_at (hr.mono (by first | exact Nat.le_refl _ | decide | omega)) (da_cons (de_var 0) (da_cons (de_var 1) (da_nil))) (aLen_cons (aLen_cons (aLen_nil)))).de) (da_nil))) (aLen_cons (aLen_cons (aLen_nil)))).de))))).dt) (dss_one (ds_ret (de_bl))) (dss_nil))
  (dss_cons (ds_if (dt_not (dt_tru ((dc_cal0 h__law_same (hr.mono (by first | exact Nat.le_refl _ | decide | omega)) (da_cons (de_var 3) (da_cons ((dc_cal0 h__law_through (hr.mono (by first | exact Nat.le_refl _ | decide | omega)) (da_cons ((dc_cal0 h__law_mirror (hr.mono (by first | exact Nat.le_refl _ | decide | omega)) (da_cons (de_var 0) (da_cons (de_ix (de_var 2) (de_int)) (da_nil))) (aLen_cons (aLen_cons (aLen_nil)))).de) (da_cons ((dc_cal0 h__law_mirror (hr.mono (by first | exact Nat.le_refl _ | decide | omega)) (da_cons (de_var 0) (da_cons (de_ix (de_var 2) (de_int)) (da_nil))) (aLen_cons (aLen_cons (aLen_nil)))).de) (da_nil))) (aLen_cons (aLen_cons (aLen_nil)))).de) (da_nil))) (aLen_cons (aLen_cons (aLen_nil)))).de))) (dss_one (ds_ret (de_bl))) (dss_nil))
  (dss_one (ds_ret ((dc_cal0 h__law_same (hr.mono (by first | exact Nat.le_refl _ | decide | omega)) (da_cons ((dc_cal0 h_mirror_line (hr.mono (by first | exact Nat.le_refl _ | decide | omega)) (da_cons (de_var 0) (da_cons (de_var 3) (da_nil))) (aLen_cons (aLen_cons (aLen_nil)))).de) (da_cons (de_var 1) (da_nil))) (aLen_cons (aLen_cons (aLen_nil)))).de)))))⟩)
/-! ### _law_folds -/
abbrev t__law_folds : Stmt := topS 39
theorem sc__law_folds : FnScope ["one", "other", "third", "a", "b", "squares", "due", "point"] ["one", "other", "third"] (defScope t__law_folds) := ⟨rfl, rfl, rfl, by decide +kernel, rfl, by decide +kernel, by decide +kernel⟩
def s__law_folds : FS := sSeq (sSet 3 (eRetD (eCall0 m__law_mul (aCons (eTup (aCons (eC (.int 2)) (aCons (eC (.int 1)) (aNil)))) (aCons (eRetD (eCall0 m__law_less (aCons (eBin dIx (eVar 1) (eC (.int 0))) (aCons (eBin dIx (eVar 0) (eC (.int 0))) (aNil))))) (aNil))))))
  (sSeq (sSet 4 (eRetD (eCall0 m__law_mul (aCons (eTup (aCons (eC (.int 2)) (aCons (eC (.int 1)) (aNil)))) (aCons (eRetD (eCall0 m__law_less (aCons (eBin dIx (eVar 1) (eC (.int 1))) (aCons (eBin dIx (eVar 0) (eC (.int 1))) (aNil))))) (aNil))))))
  (sSeq (sSet 5 (eFrz (eComp none [7] (iSq (eFrz (eLst (aCons (eVar 0) (aCons (eVar 1) (aNil)))))) (gNm 7) (cYes) (eRetD (eCall0 m__law_add (aCons (eRetD (eCall0 m__law_mul (aCons (eBin dIx (eVar 7) (eC (.int 0))) (aCons (eBin dIx (eVar 7) (eC (.int 0))) (aNil))))) (aCons (eRetD (eCall0 m__law_mul (aCons (eBin dIx (eVar 7) (eC (.int 1))) (aCons (eBin dIx (eVar 7) (eC (.int 1))) (aNil))))) (aNil))))))))
  (sSeq (sSet 6 (eRetD (eCall0 m__law_line (aCons (eVar 3) (aCons (eVar 4) (aCons (eRetD (eCall0 m__law_less (aCons (eBin dIx (eVar 5) (eC (.int 1))) (aCons (eBin dIx (eVar 5) (eC (.int 0))) (aNil))))) (aNil)))))))
  (sSeq (sIf (eOr (eNot (eTru (eRetD (eCall0 (m__law_same 12) (aCons (eRetD (eCall0 m_point_on_point (aCons (eVar 0) (aCons (eVar 1) (aNil))))) (aCons (eVar 6) (aNil))))))) (eNot (eTru (eRetD (eCall0 (m__law_same 12) (aCons (eRetD (eCall0 m_point_on_point (aCons (eVar 1) (aCons (eVar 0) (aNil))))) (aCons (eVar 6) (aNil)))))))) (sRet (eC (.bool false))) (sNx))
  (sSeq (sIf (eOr (eTst (eBin (fun x y => (bNe x y).map .bool) (eRetD (eCall0 m__law_mirror (aCons (eVar 6) (aCons (eVar 0) (aNil))))) (eVar 1))) (eNot (eTru (eRetD (eCall0 (m__law_same 12) (aCons (eRetD (eCall0 m_mirror_point (aCons (eVar 6) (aCons (eVar 1) (aNil))))) (aCons (eVar 0) (aNil)))))))) (sRet (eC (.bool false))) (sNx))
  (sRet (eAndV (eRetD (eCall0 (m__law_same 12) (aCons (eRetD (eCall0 m_lays_on (aCons (eVar 6) (aCons (eVar 0) (aCons (eVar 1) (aNil)))))) (aCons (eC (.bool true)) (aNil))))) (eRetD (eCall0 (m__law_same 12) (aCons (eRetD (eCall0 m_lays_on (aCons (eVar 6) (aCons (eVar 0) (aCons (eVar 2) (aNil)))))) (aCons (eBin (fun x y => (bEq x y).map .bool) (eRetD (eCall0 m__law_mirror (aCons (eVar 6) (aCons (eVar 0) (aNil))))) (eVar 2)) (aNil))))))))))))
def m__law_folds : FnS := fnSem 8 [] s__law_folds
theorem ok__law_folds (S : Src K mg "_law_folds" t__law_folds ["one", "other", "third"]) (h__law_add : Cal P w K mg base 3 "_law_add" ["one", "other"] [] m__law_add) (h__law_less : Cal P w K mg base 3 "_law_less" ["one", "other"] [] m__law_less) (h__law_line : Cal P w K mg base 2 "_law_line" ["a", "b", "c"] [] m__law_line) (h__law_mirror : Cal P w K mg base 5 "_law_mirror" ["line", "point"] [] m__law_mirror) (h__law_mul : Cal P w K mg base 3 "_law_mul" ["one", "other"] [] m__law_mul) (h__law_same : Cal P w K mg base 12 "_law_same" ["actual", "due"] [] (m__law_same 12)) (h_lays_on : Cal P w K mg base 6 "lays_on" ["line", "one", "other"] [] m_lays_on) (h_mirror_point : Cal P w K mg base 5 "mirror_point" ["line", "point"] [] m_mirror_point) (h_point_on_point : Cal P w K mg base 5 "point_on_point" ["one", "other"] [] m_point_on_point) : Cal P w K mg base 13 "_law_folds" ["one", "other", "third"] [] m__law_folds :=
  pd_cal (k := 12) [] S sc__law_folds rfl (body := s__law_folds) (fun f cdv A outer s H E hr => ⟨_, dss_cons (ds_set sc__law_folds.nd ((dc_cal0 h__law_mul (hr.mono (by first | exact Nat.le_refl _ | decide | omega)) (da_cons (de_tup (da_cons (de_int) (da_cons (de_int) (da_nil)))) (da_cons ((dc_cal0 h__law_less (hr.mono (by first | exact Nat.le_refl _ | decide | omega)) (da_cons (de_ix (de_var 1) (de_int)) (da_cons (de_ix (de_var 0) (de_int)) (da_nil))) (aLen_cons (aLen_cons (aLen_nil)))).de) (da_nil))) (aLen_cons (aLen_cons (aLen_nil)))).de) (i := 3))
  (dss_cons (ds_set sc__law_folds.nd ((dc_cal0 h__law_mul (hr.mono (by first | exact Nat.le_refl _ | decide | omega)) (da_cons (de_tup (da_cons (de_int) (da_cons (de_int) (da_nil)))) (da_cons ((dc_cal0 h__law_less (hr.mono (by first | exact Nat.le_refl _ | decide | omega)) (da_cons (de_ix (de_var 1) (de_int)) (da_cons (de_ix (de_var 0) (de_int)) (da_nil))) (aLen_cons (aLen_cons (aLen_nil)))).de) (da_nil))) (aLen_cons (aLen_cons (aLen_nil)))).de) (i := 4))
  (dss_cons (ds_setCompX rfl sc__law_folds.nd (di_sq ((dn_lst (da_cons (de_var 0) (da_cons (de_var 1) (da_nil)))).de)) (own := [("point", 7)]) (blkOk_by (N := ["one", "other", "third", "a", "b", "squares", "due", "point"]) (sc := defScope t__law_folds) (by decide +kernel)) (fun s H C cl fp => dg_name 7 sc__law_folds.nd) (fun s H C cl fp => dts_nil) (fun s H C cl fp => (dc_cal0 h__law_add (hr.mono (by first | exact Nat.le_refl _ | decide | omega)) (da_cons ((dc_cal0 h__law_mul (hr.mono (by first | exact Nat.le_refl _ | decide | omega)) (da_cons (de_ix (de_var 7) (de_int)) (da_cons (de_ix (de_var 7) (de_int)) (da_nil))) (aLen_cons (aLen_cons (aLen_nil)))).de) (da_cons ((dc_cal0 h__law_mul (hr.mono (by first | exact Nat.le_refl _ | decide | omega)) (da_cons (de_ix (de_var 7) (de_int)) (da_cons (de_ix (de_var 7) (de_int)) (da_nil))) (aLen_cons (aLen_cons (aLen_nil)))).de) (da_nil))) (aLen_cons (aLen_cons (aLen_nil)))).de))
  (dss_cons (ds_set sc__law_folds.nd ((dc_cal0 h__law_line (hr.mono (by first | exact Nat.le_refl _ | decide | omega)) (da_cons (de_var 3) (da_cons (de_var 4) (da_cons ((dc_cal0 h__law_less (hr.mono (by first | exact Nat.le_refl _ | decide | omega)) (da_cons (de_ix (de_var 5) (de_int)) (da_cons (de_ix (de_var 5) (de_int)) (da_nil))) (aLen_cons (aLen_cons (aLen_nil)))).de) (da_nil)))) (aLen_cons (aLen_cons (aLen_cons (aLen_nil))))).de) (i := 6))
  (dss_cons (ds_if ((dw_or (dt_not (dt_tru ((dc_cal0 h__law_same (hr.mono (by first | exact Nat.le_refl _ | decide | omega)) (da_cons ((dc_cal0 h_point_on_point (hr.mono (by first | exact Nat.le_refl _ | decide | omega)) (da_cons (de_var 0) (da_cons (de_var 1) (da_nil))) (aLen_cons (aLen_cons (aLen_nil)))).de) (da_cons (de_var 6) (da_nil))) (aLen_cons (aLen_cons (aLen_nil)))).de))) (dw_or1 (dt_not (dt_tru ((dc_cal0 h__law_same (hr.mono (by first | exact Nat.le_refl _ | decide | omega)) (da_cons ((dc_cal0 h_point_on_point (hr.mono (by first | exact Nat.le_refl _ | decide | omega)) (da_cons (de_var 1) (da_cons (de_var 0) (da_nil))) (aLen_cons (aLen_cons (aLen_nil)))).de) (da_cons (de_var 6) (da_nil))) (aLen_cons (aLen_cons (aLen_nil)))).de))))).dt) (dss_one (ds_ret (de_bl))) (dss_nil))
  (dss_cons (ds_if ((dw_or (dt_cmp (op_neB (hu_of' hr)) v_dat ((dc_cal0 h__law_mirror (hr.mono (by first | exact Nat.le_refl _ | decide | omega)) (da_cons (de_var 6) (da_cons (de_var 0) (da_nil))) (aLen_cons (aLen_cons (aLen_nil)))).de) (de_var 1)) (dw_or1 (dt_not (dt_tru ((dc_cal0 h__law_same (hr.mono (by first | exact Nat.le_refl _ | decide | omega)) (da_cons ((dc_cal0 h_mirror_point (hr.mono (by first | exact Nat.le_refl _ | decide | omega)) (da_cons (de_var 6) (da_cons (de_var 1) (da_nil))) (aLen_cons (aLen_cons (aLen_nil)))).de) (da_cons (de_var 0) (da_nil))) (aLen_cons (aLen_cons (aLen_nil)))).de))))).dt) (dss_one (ds_ret (de_bl))) (dss_nil))
  (dss_one (ds_ret (de_and ((dc_cal0 h__law_same (hr.mono (by first | exact Nat.le_refl _ | decide | omega)) (da_cons ((dc_cal0 h_lays_on (hr.mono (by first | exact Nat.le_refl _ | decide | omega)) (da_cons (de_var 6) (da_cons (de_var 0) (da_cons (de_var 1) (da_nil)))) (aLen_cons (aLen_cons (aLen_cons (aLen_nil))))).de) (da_cons (de_bl) (da_nil))) (aLen_cons (aLen_cons (aLen_nil)))).de) (de_one ((dc_cal0 h__law_same (hr.mono (by first | exact Nat.le_refl _ | decide | omega)) (da_cons ((dc_cal0 h_lays_on (hr.mono (by first | exact Nat.le_refl _ | decide | omega)) (da_cons (de_var 6) (da_cons (de_var 0) (da_cons (de_var 2) (da_nil)))) (aLen_cons (aLen_cons (aLen_cons (aLen_nil))))).de) (da_cons (de_cmp (op_eqB (hu_of' hr)) v_dat ((dc_cal0 h__law_mirror (hr.mono (by first | exact Nat.le_refl _ | decide | omega)) (da_cons (de_var 6) (da_cons (de_var 0) (da_nil))) (aLen_cons (aLen_cons (aLen_nil)))).de) (de_var 2)) (da_nil))) (aLen_cons (aLen_cons (aLen_nil)))).de))))))))))⟩)
/-! ### _law_square -/
abbrev t__law_square : Stmt := topS 41
theorem sc__law_square : FnScope ["line", "point", "due", "told"] ["line", "point"] (defScope t__law_square) := ⟨rfl, rfl, rfl, by decide +kernel, rfl, by decide +kernel, by decide +kernel⟩
def s__law_square : FS := sSeq (sSet 2 (eRetD (eCall0 m__law_line (aCons (eTup (aCons (eBin dIx (eVar 0) (eC (.int 1))) (aCons (eC (.int 1)) (aNil)))) (aCons (eTup (aCons (eUn dNeg (eBin dIx (eVar 0) (eC (.int 0)))) (aCons (eC (.int 1)) (aNil)))) (aCons (eRetD (eCall0 m__law_less (aCons (eRetD (eCall0 m__law_mul (aCons (eTup (aCons (eBin dIx (eVar 0) (eC (.int 1))) (aCons (eC (.int 1)) (aNil)))) (aCons (eBin dIx (eVar 1) (eC (.int 0))) (aNil))))) (aCons (eRetD (eCall0 m__law_mul (aCons (eTup (aCons (eBin dIx (eVar 0) (eC (.int 0))) (aCons (eC (.int 1)) (aNil)))) (aCons (eBin dIx (eVar 1) (eC (.int 1))) (aNil))))) (aNil))))) (aNil)))))))
  (sSeq (sSet 3 (eRetD (eCall0 m_line_on_itself (aCons (eVar 0) (aCons (eVar 1) (aNil))))))
  (sSeq (sIf (eOr (eNot (eTru (eRetD (eCall0 (m__law_same 12) (aCons (eVar 3) (aCons (eVar 2) (aNil))))))) (eOr (eNot (eTru (eRetD (eCall0 (m__law_same 12) (aCons (eRetD (eCall0 m_side (aCons (eVar 3) (aCons (eVar 1) (aNil))))) (aCons (eC (.int 0)) (aNil))))))) (eTst (eBin (fun x y => (bNe x y).map .bool) (eBin dAddA (eBin dMul (eBin dIx (eVar 0) (eC (.int 0))) (eBin dIx (eVar 3) (eC (.int 0)))) (eBin dMul (eBin dIx (eVar 0) (eC (.int 1))) (eBin dIx (eVar 3) (eC (.int 1))))) (eC (.int 0)))))) (sRet (eC (.bool false))) (sNx))
  (sRet (eRetD (eCall0 (m__law_same 12) (aCons (eRetD (eCall0 m_mirror_line (aCons (eVar 3) (aCons (eVar 0) (aNil))))) (aCons (eVar 0) (aNil))))))))
def m__law_square : FnS := fnSem 4 [] s__law_square
theorem ok__law_square (S : Src K mg "_law_square" t__law_square ["line", "point"]) (h__law_less : Cal P w K mg base 3 "_law_less" ["one", "other"] [] m__law_less) (h__law_line : Cal P w K mg base 2 "_law_line" ["a", "b", "c"] [] m__law_line) (h__law_mul : Cal P w K mg base 3 "_law_mul" ["one", "other"] [] m__law_mul) (h__law_same : Cal P w K mg base 12 "_law_same" ["actual", "due"] [] (m__law_same 12)) (h_line_on_itself : Cal P w K mg base 4 "line_on_itself" ["line", "point"] [] m_line_on_itself) (h_mirror_line : Cal P w K mg base 6 "mirror_line" ["line", "other"] [] m_mirror_line) (h_side : Cal P w K mg base 5 "side" ["line", "point"] [] m_side) : Cal P w K mg base 13 "_law_square" ["line", "point"] [] m__law_square :=
  pd_cal (k := 12) [] S sc__law_square rfl (body := s__law_square) (fun f cdv A outer s H E hr => ⟨_, dss_cons (ds_set sc__law_square.nd ((dc_cal0 h__law_line (hr.mono (by first | exact Nat.le_refl _ | decide | omega)) (da_cons (de_tup (da_cons (de_ix (de_var 0) (de_int)) (da_cons (de_int) (da_nil)))) (da_cons (de_tup (da_cons (de_un un_neg v_neg (de_ix (de_var 0) (de_int))) (da_cons (de_int) (da_nil)))) (da_cons ((dc_cal0 h__law_less (hr.mono (by first | exact Nat.le_refl _ | decide | omega)) (da_cons ((dc_cal0 h__law_mul (hr.mono (by first | exact Nat.le_refl _ | decide | omega)) (da_cons (de_tup (da_cons (de_ix (de_var 0) (de_int)) (da_cons (de_int) (da_nil)))) (da_cons (de_ix (de_var 1) (de_int)) (da_nil))) (aLen_cons (aLen_cons (aLen_nil)))).de) (da_cons ((dc_cal0 h__law_mul (hr.mono (by first | exact Nat.le_refl _ | decide | omega)) (da_cons (de_tup (da_cons (de_ix (de_var 0) (de_int)) (da_cons (de_int) (da_nil)))) (da_cons (de_ix (de_var 1) (de_int)) (da_nil))) (aLen_cons (aLen_cons (aLen_nil)))).de) (da_nil))) (aLen_cons (aLen_cons (aLen_nil)))).de) (da_nil)))) (aLen_cons (aLen_cons (aLen_cons (aLen_nil))))).de) (i := 2))
  (dss_cons (ds_set sc__law_square.nd ((dc_cal0 h_line_on_itself (hr.mono (by first | exact Nat.le_refl _ | decide | omega)) (da_cons (de_var 0) (da_cons (de_var 1) (da_nil))) (aLen_cons (aLen_cons (aLen_nil)))).de) (i := 3))
  (dss_cons (ds_if ((dw_or (dt_not (dt_tru ((dc_cal0 h__law_same (hr.mono (by first | exact Nat.le_refl _ | decide | omega)) (da_cons (de_var 3) (da_cons (de_var 2) (da_nil))) (aLen_cons (aLen_cons (aLen_nil)))).de))) (dw_or (dt_not (dt_tru ((dc_cal0 h__law_same (hr.mono (by first | exact Nat.le_refl _ | decide | omega)) (da_cons ((dc_cal0 h_side (hr.mono (by first | exact Nat.le_refl _ | decide | omega)) (da_cons (de_var 3) (da_cons (de_var 1) (da_nil))) (aLen_cons (aLen_cons (aLen_nil)))).de) (da_cons (de_int) (da_nil))) (aLen_cons (aLen_cons (aLen_nil)))).de))) (dw_or1 (dt_cmp (op_neB (hu_of' hr)) v_dat (de_bin op_addA v_addA (de_bin op_mulD v_mul (de_ix (de_var 0) (de_int)) (de_ix (de_var 3) (de_int))) (de_bin op_mulD v_mul (de_ix (de_var 0) (de_int)) (de_ix (de_var 3) (de_int)))) (de_int))))).dt) (dss_one (ds_ret (de_bl))) (dss_nil))
  (dss_one (ds_ret ((dc_cal0 h__law_same (hr.mono (by first | exact Nat.le_refl _ | decide | omega)) (da_cons ((dc_cal0 h_mirror_line (hr.mono (by first | exact Nat.le_refl _ | decide | omega)) (da_cons (de_var 3) (da_cons (de_var 0) (da_nil))) (aLen_cons (aLen_cons (aLen_nil)))).de) (da_cons (de_var 0) (da_nil))) (aLen_cons (aLen_cons (aLen_nil)))).de)))))⟩)
/-! ### law -/
abbrev t_law : Stmt := topS 43
theorem sc_law : FnScope ["script", "draws", "cell", "large", "k", "points", "one", "other", "third", "fourth", "line", "second", "parallel", "centre", "height"] ["script"] (defScope t_law) := ⟨rfl, rfl, rfl, by decide +kernel, rfl, by decide +kernel, by decide +kernel⟩
def b_law_1 : FS := sExpr (eMeth 3 lAppend (aCons (eBor 3 (eRetD (eCall1 0 1 m__law_point (rIo 1 (rCons (eVar 2) (rCons (eVar 3) (rCons (eC (.bool true)) (rNil)))))))) (aNil)))
def l_law_1 : FS := sFor none [4] (iR1 (aCons (eC (.int 4)) (aNil))) (gNm 4) b_law_1
def b_law_2 : FS := sExpr (eMeth 5 lAppend (aCons (eBor 5 (eRetD (eCall1 0 1 m__law_point (rIo 1 (rCons (eVar 2) (rCons (eVar 5) (rCons (eC (.bool false)) (rNil)))))))) (aNil)))
def l_law_2 : FS := sFor none [4] (iR1 (aCons (eC (.int 4)) (aNil))) (gNm 4) b_law_2
def s_law : FS := sSeq (sSetN 1 (eRetN (eCall0 m__law_draws (aCons (eVar 0) (aCons (eC (.int 160)) (aNil))))))
  (sSeq (sSet 2 (eRetD (eCall1 1 1 m__law_cell (rCons (eVar 0) (rIo 1 (rNil))))))
  (sSeq (sSetN 3 (eLst (aNil)))
  (sSeq (l_law_1)
  (sSeq (sIf (eNot (eTru (eRetD (eCall0 m__law_large (aCons (eBin dIx (eVar 3) (eC (.int 0))) (aCons (eBin dIx (eVar 3) (eC (.int 1))) (aCons (eBin dIx (eVar 3) (eC (.int 2))) (aCons (eBin dIx (eVar 3) (eC (.int 3))) (aNil))))))))) (sRet (eC (.bool false))) (sNx))
  (sSeq (sSetN 5 (eLst (aNil)))
  (sSeq (l_law_2)
  (sSeq (sAsg (eVar 5) (gTp 4 (gCn (gNm 6) (gCn (gNm 7) (gCn (gNm 8) (gCn (gNm 9) (gNl)))))))
  (sSeq (sSet 10 (eRetD (eCall0 m__law_through (aCons (eVar 6) (aCons (eVar 7) (aNil))))))
  (sSeq (sSet 11 (eRetD (eCall0 m__law_through (aCons (eVar 8) (aCons (eVar 9) (aNil))))))
  (sSeq (sIf (eOr (eNot (eTru (eRetD (eCall0 (m__law_same 12) (aCons (eRetD (eCall0 m_line_through (aCons (eVar 6) (aCons (eVar 7) (aNil))))) (aCons (eVar 10) (aNil))))))) (eNot (eTru (eRetD (eCall0 (m__law_same 12) (aCons (eRetD (eCall0 m_line_through (aCons (eVar 9) (aCons (eVar 8) (aNil))))) (aCons (eVar 11) (aNil)))))))) (sRet (eC (.bool false))) (sNx))
  (sSeq (sIf (eOr (eNot (eTru (eRetD (eCall0 m__law_on (aCons (eVar 10) (aCons (eVar 5) (aNil))))))) (eOr (eNot (eTru (eRetD (eCall0 m__law_lines (aCons (eVar 10) (aCons (eVar 11) (aCons (eTup (aCons (eVar 8) (aCons (eVar 9) (aNil)))) (aNil)))))))) (eNot (eTru (eRetD (eCall0 m__law_lines (aCons (eVar 11) (aCons (eVar 10) (aCons (eTup (aCons (eVar 6) (aCons (eVar 7) (aNil)))) (aNil)))))))))) (sRet (eC (.bool false))) (sNx))
  (sSeq (sSet 12 (eTup (aCons (eVar 8) (aCons (eTup (aCons (eRetD (eCall0 m__law_less (aCons (eBin dIx (eVar 8) (eC (.int 0))) (aCons (eTup (aCons (eBin dIx (eVar 10) (eC (.int 1))) (aCons (eC (.int 1)) (aNil)))) (aNil))))) (aCons (eRetD (eCall0 m__law_add (aCons (eBin dIx (eVar 8) (eC (.int 1))) (aCons (eTup (aCons (eBin dIx (eVar 10) (eC (.int 0))) (aCons (eC (.int 1)) (aNil)))) (aNil))))) (aNil)))) (aNil)))))
  (sSeq (sIf (eOr (eNot (eTru (eRetD (eCall0 m__law_lines (aCons (eVar 10) (aCons (eRetD (eCall0 m__law_through (aCons (eBin dIx (eVar 12) (eC (.int 0))) (aCons (eBin dIx (eVar 12) (eC (.int 1))) (aNil))))) (aCons (eVar 12) (aNil)))))))) (eNot (eTru (eRetD (eCall0 m__law_lines (aCons (eVar 10) (aCons (eVar 10) (aCons (eTup (aCons (eVar 6) (aCons (eVar 7) (aNil)))) (aNil))))))))) (sRet (eC (.bool false))) (sNx))
  (sSeq (sIf (eOr (eNot (eTru (eRetD (eCall0 m__law_folds (aCons (eVar 6) (aCons (eVar 7) (aCons (eVar 8) (aNil)))))))) (eOr (eNot (eTru (eRetD (eCall0 m__law_square (aCons (eVar 10) (aCons (eVar 8) (aNil))))))) (eOr (eNot (eTru (eRetD (eCall0 m__law_square (aCons (eVar 11) (aCons (eVar 6) (aNil))))))) (eNot (eTru (eRetD (eCall0 m__law_square (aCons (eVar 10) (aCons (eVar 6) (aNil)))))))))) (sRet (eC (.bool false))) (sNx))
  (sSeq (sIf (eTst (eBin (fun x y => (bNe x y).map .bool) (eBin dIx (eRetD (eCall0 m__law_beyond (aCons (eVar 10) (aCons (eVar 8) (aNil))))) (eC (.int 0))) (eC (.int 0)))) (sSeq (sSet 13 (eRetD (eCall0 m_meeting (aCons (eRetD (eCall0 m_point_on_point (aCons (eVar 6) (aCons (eVar 7) (aNil))))) (aCons (eRetD (eCall0 m_point_on_point (aCons (eVar 7) (aCons (eVar 8) (aNil))))) (aNil))))))
  (sSeq (sSet 14 (eRetD (eCall0 m_meeting (aCons (eRetD (eCall0 m_line_on_itself (aCons (eVar 10) (aCons (eVar 8) (aNil))))) (aCons (eRetD (eCall0 m_line_on_itself (aCons (eRetD (eCall0 m__law_through (aCons (eVar 7) (aCons (eVar 8) (aNil))))) (aCons (eVar 6) (aNil))))) (aNil))))))
  (sSeq (sIf (eOr (eTst (eBin (fun x y => (bIsN x y).map .bool) (eVar 13) (eC .none))) (eOr (eTst (eBin (fun x y => (bIsN x y).map .bool) (eVar 14) (eC .none))) (eNot (eTru (eRetD (eCall0 (m__law_same 12) (aCons (eRetD (eCall0 m_side (aCons (eRetD (eCall0 m_point_on_point (aCons (eVar 6) (aCons (eVar 8) (aNil))))) (aCons (eVar 13) (aNil))))) (aCons (eC (.int 0)) (aNil))))))))) (sRet (eC (.bool false))) (sNx))
  (sIf (eNot (eTru (eRetD (eCall0 (m__law_same 12) (aCons (eRetD (eCall0 m_side (aCons (eRetD (eCall0 m_line_on_itself (aCons (eRetD (eCall0 m__law_through (aCons (eVar 6) (aCons (eVar 8) (aNil))))) (aCons (eVar 7) (aNil))))) (aCons (eVar 14) (aNil))))) (aCons (eC (.int 0)) (aNil))))))) (sRet (eC (.bool false))) (sNx))))) (sNx))
  (sSeq (sIf (eOr (eNot (eTru (eRetD (eCall0 (m__law_same 12) (aCons (eRetD (eCall0 m_line_through (aCons (eTup (aCons (eTup (aCons (eC (.int 0)) (aCons (eC (.int 1)) (aNil)))) (aCons (eTup (aCons (eC (.int 1)) (aCons (eC (.int 2)) (aNil)))) (aNil)))) (aCons (eTup (aCons (eTup (aCons (eC (.int 1)) (aCons (eC (.int 3)) (aNil)))) (aCons (eTup (aCons (eC (.int 0)) (aCons (eC (.int 1)) (aNil)))) (aNil)))) (aNil))))) (aCons (eTup (aCons (eC (.int 3)) (aCons (eC (.int 2)) (aCons (eC (.int 1)) (aNil))))) (aNil))))))) (eTst (eBin (fun x y => (bNotN x y).map .bool) (eRetD (eCall0 m_meeting (aCons (eTup (aCons (eC (.int 1)) (aCons (eC (.int 2)) (aCons (eC (.int 3)) (aNil))))) (aCons (eTup (aCons (eC (.int 1)) (aCons (eC (.int 2)) (aCons (eC (.int 4)) (aNil))))) (aNil))))) (eC .none)))) (sRet (eC (.bool false))) (sNx))
  (sRet (eAndV (eRetD (eCall0 (m__law_same 12) (aCons (eRetD (eCall0 m_mirror_point (aCons (eTup (aCons (eC (.int 0)) (aCons (eC (.int 1)) (aCons (eC (.int 0)) (aNil))))) (aCons (eTup (aCons (eTup (aCons (eC (.int 1)) (aCons (eC (.int 2)) (aNil)))) (aCons (eTup (aCons (eC (.int 3)) (aCons (eC (.int 4)) (aNil)))) (aNil)))) (aNil))))) (aCons (eTup (aCons (eTup (aCons (eC (.int 1)) (aCons (eC (.int 2)) (aNil)))) (aCons (eTup (aCons (eUn dNeg (eC (.int 3))) (aCons (eC (.int 4)) (aNil)))) (aNil)))) (aNil))))) (eRetD (eCall0 m__law_on (aCons (eVar 10) (aCons (eSl (eVar 5) (oSome (eC (.int 2))) (oNone)) (aNil)))))))))))))))))))))))
def m_law : FnS := fnSem 15 [] s_law
theorem ok_law {f : Addr} {fd : FuncData} (F : Fun K "law" "law" t_law f fd) (h__law_add : Cal P w K mg base 3 "_law_add" ["one", "other"] [] m__law_add) (h__law_beyond : Cal P w K mg base 4 "_law_beyond" ["line", "point"] [] m__law_beyond) (h__law_cell : Cal P w K mg base 2 "_law_cell" ["script", "draws"] [1] m__law_cell) (h__law_draws : Cal P w K mg base 1 "_law_draws" ["script", "many"] [] m__law_draws) (h__law_folds : Cal P w K mg base 13 "_law_folds" ["one", "other", "third"] [] m__law_folds) (h__law_large : Cal P w K mg base 13 "_law_large" ["one", "other", "third", "fourth"] [] m__law_large) (h__law_less : Cal P w K mg base 3 "_law_less" ["one", "other"] [] m__law_less) (h__law_lines : Cal P w K mg base 13 "_law_lines" ["one", "other", "points"] [] m__law_lines) (h__law_on : Cal P w K mg base 13 "_law_on" ["line", "points"] [] m__law_on) (h__law_point : Cal P w K mg base 4 "_law_point" ["draws", "cell", "others", "is_large"] [0] m__law_point) (h__law_same : Cal P w K mg base 12 "_law_same" ["actual", "due"] [] (m__law_same 12)) (h__law_square : Cal P w K mg base 13 "_law_square" ["line", "point"] [] m__law_square) (h__law_through : Cal P w K mg base 4 "_law_through" ["one", "other"] [] m__law_through) (h_line_on_itself : Cal P w K mg base 4 "line_on_itself" ["line", "point"] [] m_line_on_itself) (h_line_through : Cal P w K mg base 4 "line_through" ["one", "other"] [] m_line_through) (h_meeting : Cal P w K mg base 4 "meeting" ["one", "other"] [] m_meeting) (h_mirror_point : Cal P w K mg base 5 "mirror_point" ["line", "point"] [] m_mirror_point) (h_point_on_point : Cal P w K mg base 5 "point_on_point" ["one", "other"] [] m_point_on_point) (h_side : Cal P w K mg base 5 "side" ["line", "point"] [] m_side) (z_range : mg "range" = none) : FnD P w K mg base 14 f fd ["script"] [] m_law :=
  pd_fnN (k := 13) [] F sc_law rfl (body := s_law) (fun cdv A outer s H E hr => ⟨_, dss_cons (ds_setN sc_law.nd ((dc_cal0 h__law_draws (hr.mono (by first | exact Nat.le_refl _ | decide | omega)) (da_cons (de_var 0) (da_cons (de_int) (da_nil))) (aLen_cons (aLen_cons (aLen_nil)))).dn) (i := 1))
  (dss_cons (ds_set sc_law.nd ((dc_cal1 h__law_cell (hr.mono (by first | exact Nat.le_refl _ | decide | omega)) (j := 1) (dr_cons (de_var 0) (dr_io (dr_nil)))).de) (i := 2))
  (dss_cons (ds_setN sc_law.nd (dn_lst (da_nil)) (i := 3))
  (dss_cons (ds_for [4] PassesOwn.never rfl (di_range1 (da_cons (de_int) (da_nil)) z_range) (dg_name 4 sc_law.nd) (dss_one (ds_expr (de_lm (j := 3) PySem.F.slot_list_append PySem.F.type_list_append mt_append l_append (da_cons (de_bor 3 ((dc_cal1 h__law_point (hr.mono (by first | exact Nat.le_refl _ | decide | omega)) (j := 1) (dr_io (dr_cons (de_var 2) (dr_cons (de_var 3) (dr_cons (de_bl) (dr_nil)))))).de)) (da_nil))))))
  (dss_cons (ds_if (dt_not (dt_tru ((dc_cal0 h__law_large (hr.mono (by first | exact Nat.le_refl _ | decide | omega)) (da_cons (de_ix (de_var 3) (de_int)) (da_cons (de_ix (de_var 3) (de_int)) (da_cons (de_ix (de_var 3) (de_int)) (da_cons (de_ix (de_var 3) (de_int)) (da_nil))))) (aLen_cons (aLen_cons (aLen_cons (aLen_cons (aLen_nil)))))).de))) (dss_one (ds_ret (de_bl))) (dss_nil))
  (dss_cons (ds_setN sc_law.nd (dn_lst (da_nil)) (i := 5))
  (dss_cons (ds_for [4] PassesOwn.never rfl (di_range1 (da_cons (de_int) (da_nil)) z_range) (dg_name 4 sc_law.nd) (dss_one (ds_expr (de_lm (j := 5) PySem.F.slot_list_append PySem.F.type_list_append mt_append l_append (da_cons (de_bor 5 ((dc_cal1 h__law_point (hr.mono (by first | exact Nat.le_refl _ | decide | omega)) (j := 1) (dr_io (dr_cons (de_var 2) (dr_cons (de_var 5) (dr_cons (de_bl) (dr_nil)))))).de)) (da_nil))))))
  (dss_cons (ds_asg (de_var 5) (dg_tup rfl (dgs_cons (dg_name 6 sc_law.nd) (dgs_cons (dg_name 7 sc_law.nd) (dgs_cons (dg_name 8 sc_law.nd) (dgs_cons (dg_name 9 sc_law.nd) (dgs_nil)))))))
  (dss_cons (ds_set sc_law.nd ((dc_cal0 h__law_through (hr.mono (by first | exact Nat.le_refl _ | decide | omega)) (da_cons (de_var 6) (da_cons (de_var 7) (da_nil))) (aLen_cons (aLen_cons (aLen_nil)))).de) (i := 10))
  (dss_cons (ds_set sc_law.nd ((dc_cal0 h__law_through (hr.mono (by first | exact Nat.le_refl _ | decide | omega)) (da_cons (de_var 8) (da_cons (de_var 9) (da_nil))) (aLen_cons (aLen_cons (aLen_nil)))).de) (i := 11))
  (dss_cons (ds_if ((dw_or (dt_not (dt_tru ((dc_cal0 h__law_same (hr.mono (by first | exact Nat.le_refl _ | decide | omega)) (da_cons ((dc_cal0 h_line_through (hr.mono (by first | exact Nat.le_refl _ | decide | omega)) (da_cons (de_var 6) (da_cons (de_var 7) (da_nil))) (aLen_cons (aLen_cons (aLen_nil)))).de) (da_cons (de_var 10) (da_nil))) (aLen_cons (aLen_cons (aLen_nil)))).de))) (dw_or1 (dt_not (dt_tru ((dc_cal0 h__law_same (hr.mono (by first | exact Nat.le_refl _ | decide | omega)) (da_cons ((dc_cal0 h_line_through (hr.mono (by first | exact Nat.le_refl _ | decide | omega)) (da_cons (de_var 9) (da_cons (de_var 8) (da_nil))) (aLen_cons (aLen_cons (aLen_nil)))).de) (da_cons (de_var 11) (da_nil))) (aLen_cons (aLen_cons (aLen_nil)))).de))))).dt) (dss_one (ds_ret (de_bl))) (dss_nil))
  (dss_cons (ds_if ((dw_or (dt_not (dt_tru ((dc_cal0 h__law_on (hr.mono (by first | exact Nat.le_refl _ | decide | omega)) (da_cons (de_var 10) (da_cons (de_var 5) (da_nil))) (aLen_cons (aLen_cons (aLen_nil)))).de))) (dw_or (dt_not (dt_tru ((dc_cal0 h__law_lines (hr.mono (by first | exact Nat.le_refl _ | decide | omega)) (da_cons (de_var 10) (da_cons (de_var 11) (da_cons (de_tup (da_cons (de_var 8) (da_cons (de_var 9) (da_nil)))) (da_nil)))) (aLen_cons (aLen_cons (aLen_cons (aLen_nil))))).de))) (dw_or1 (dt_not (dt_tru ((dc_cal0 h__law_lines (hr.mono (by first | exact Nat.le_refl _ | decide | omega)) (da_cons (de_var 11) (da_cons (de_var 10) (da_cons (de_tup (da_cons (de_var 6) (da_cons (de_var 7) (da_nil)))) (da_nil)))) (aLen_cons (aLen_cons (aLen_cons (aLen_nil))))).de)))))).dt) (dss_one (ds_ret (de_bl))) (dss_nil))
  (dss_cons (ds_set sc_law.nd (de_tup (da_cons (de_var 8) (da_cons (de_tup (da_cons ((dc_cal0 h__law_less (hr.mono (by first | exact Nat.le_refl _ | decide | omega)) (da_cons (de_ix (de_var 8) (de_int)) (da_cons (de_tup (da_cons (de_ix (de_var 10) (de_int)) (da_cons (de_int) (da_nil)))) (da_nil))) (aLen_cons (aLen_cons (aLen_nil)))).de) (da_cons ((dc_cal0 h__law_add (hr.mono (by first | exact Nat.le_refl _ | decide | omega)) (da_cons (de_ix (de_var 8) (de_int)) (da_cons (de_tup (da_cons (de_ix (de_var 10) (de_int)) (da_cons (de_int) (da_nil)))) (da_nil))) (aLen_cons (aLen_cons (aLen_nil)))).de) (da_nil)))) (da_nil)))) (i := 12))
  (dss_cons (ds_if ((dw_or (dt_not (dt_tru ((dc_cal0 h__law_lines (hr.mono (by first | exact Nat.le_refl _ | decide | omega)) (da_cons (de_var 10) (da_cons ((dc_cal0 h__law_through (hr.mono (by first | exact Nat.le_refl _ | decide | omega)) (da_cons (de_ix (de_var 12) (de_int)) (da_cons (de_ix (de_var 12) (de_int)) (da_nil))) (aLen_cons (aLen_cons (aLen_nil)))).de) (da_cons (de_var 12) (da_nil)))) (aLen_cons (aLen_cons (aLen_cons (aLen_nil))))).de))) (dw_or1 (dt_not (dt_tru ((dc_cal0 h__law_lines (hr.mono (by first | exact Nat.le_refl _ | decide | omega)) (da_cons (de_var 10) (da_cons (de_var 10) (da_cons (de_tup (da_cons (de_var 6) (da_cons (de_var 7) (da_nil)))) (da_nil)))) (aLen_cons (aLen_cons (aLen_cons (aLen_nil))))).de))))).dt) (dss_one (ds_ret (de_bl))) (dss_nil))
  (dss_cons (ds_if ((dw_or (dt_not (dt_tru ((dc_cal0 h__law_folds (hr.mono (by first | exact Nat.le_refl _ | decide | omega)) (da_cons (de_var 6) (da_cons (de_var 7) (da_cons (de_var 8) (da_nil)))) (aLen_cons (aLen_cons (aLen_cons (aLen_nil))))).de))) (dw_or (dt_not (dt_tru ((dc_cal0 h__law_square (hr.mono (by first | exact Nat.le_refl _ | decide | omega)) (da_cons (de_var 10) (da_cons (de_var 8) (da_nil))) (aLen_cons (aLen_cons (aLen_nil)))).de))) (dw_or (dt_not (dt_tru ((dc_cal0 h__law_square (hr.mono (by first | exact Nat.le_refl _ | decide | omega)) (da_cons (de_var 11) (da_cons (de_var 6) (da_nil))) (aLen_cons (aLen_cons (aLen_nil)))).de))) (dw_or1 (dt_not (dt_tru ((dc_cal0 h__law_square (hr.mono (by first | exact Nat.le_refl _ | decide | omega)) (da_cons (de_var 10) (da_cons (de_var 6) (da_nil))) (aLen_cons (aLen_cons (aLen_nil)))).de))))))).dt) (dss_one (ds_ret (de_bl))) (dss_nil))
  (dss_cons (ds_if (dt_cmp (op_neB (hu_of' hr)) v_dat (de_ix ((dc_cal0 h__law_beyond (hr.mono (by first | exact Nat.le_refl _ | decide | omega)) (da_cons (de_var 10) (da_cons (de_var 8) (da_nil))) (aLen_cons (aLen_cons (aLen_nil)))).de) (de_int)) (de_int)) (dss_cons (ds_set sc_law.nd ((dc_cal0 h_meeting (hr.mono (by first | exact Nat.le_refl _ | decide | omega)) (da_cons ((dc_cal0 h_point_on_point (hr.mono (by first | exact Nat.le_refl _ | decide | omega)) (da_cons (de_var 6) (da_cons (de_var 7) (da_nil))) (aLen_cons (aLen_cons (aLen_nil)))).de) (da_cons ((dc_cal0 h_point_on_point (hr.mono (by first | exact Nat.le_refl _ | decide | omega)) (da_cons (de_var 7) (da_cons (de_var 8) (da_nil))) (aLen_cons (aLen_cons (aLen_nil)))).de) (da_nil))) (aLen_cons (aLen_cons (aLen_nil)))).de) (i := 13))
  (dss_cons (ds_set sc_law.nd ((dc_cal0 h_meeting (hr.mono (by first | exact Nat.le_refl _ | decide | omega)) (da_cons ((dc_cal0 h_line_on_itself (hr.mono (by first | exact Nat.le_refl _ | decide | omega)) (da_cons (de_var 10) (da_cons (de_var 8) (da_nil))) (aLen_cons (aLen_cons (aLen_nil)))).de) (da_cons ((dc_cal0 h_line_on_itself (hr.mono (by first | exact Nat.le_refl _ | decide | omega)) (da_cons ((dc_cal0 h__law_through (hr.mono (by first | exact Nat.le_refl _ | decide | omega)) (da_cons (de_var 7) (da_cons (de_var 8) (da_nil))) (aLen_cons (aLen_cons (aLen_nil)))).de) (da_cons (de_var 6) (da_nil))) (aLen_cons (aLen_cons (aLen_nil)))).de) (da_nil))) (aLen_cons (aLen_cons (aLen_nil)))).de) (i := 14))
  (dss_cons (ds_if ((dw_or (dt_cmp (op_isNB) v_dat (de_var 13) (de_non)) (dw_or (dt_cmp (op_isNB) v_dat (de_var 14) (de_non)) (dw_or1 (dt_not (dt_tru ((dc_cal0 h__law_same (hr.mono (by first | exact Nat.le_refl _ | decide | omega)) (da_cons ((dc_cal0 h_side (hr.mono (by first | exact Nat.le_refl _ | decide | omega)) (da_cons ((dc_cal0 h_point_on_point (hr.mono (by first | exact Nat.le_refl _ | decide | omega)) (da_cons (de_var 6) (da_cons (de_var 8) (da_nil))) (aLen_cons (aLen_cons (aLen_nil)))).de) (da_cons (de_var 13) (da_nil))) (aLen_cons (aLen_cons (aLen_nil)))).de) (da_cons (de_int) (da_nil))) (aLen_cons (aLen_cons (aLen_nil)))).de)))))).dt) (dss_one (ds_ret (de_bl))) (dss_nil))
  (dss_one (ds_if (dt_not (dt_tru ((dc_cal0 h__law_same (hr.mono (by first | exact Nat.le_refl _ | decide | omega)) (da_cons ((dc_cal0 h_side (hr.mono (by first | exact Nat.le_refl _ | decide | omega)) (da_cons ((dc_cal0 h_line_on_itself (hr.mono (by first | exact Nat.le_refl _ | decide | omega)) (da_cons ((dc_cal0 h__law_through (hr.mono (by first | exact Nat.le_refl _ | decide | omega)) (da_cons (de_var 6) (da_cons (de_var 8) (da_nil))) (aLen_cons (aLen_cons (aLen_nil)))).de) (da_cons (de_var 7) (da_nil))) (aLen_cons (aLen_cons (aLen_nil)))).de) (da_cons (de_var 14) (da_nil))) (aLen_cons (aLen_cons (aLen_nil)))).de) (da_cons (de_int) (da_nil))) (aLen_cons (aLen_cons (aLen_nil)))).de))) (dss_one (ds_ret (de_bl))) (dss_nil)))))) (dss_nil))
  (dss_cons (ds_if ((dw_or (dt_not (dt_tru ((dc_cal0 h__law_same (hr.mono (by first | exact Nat.le_refl _ | decide | omega)) (da_cons ((dc_cal0 h_line_through (hr.mono (by first | exact Nat.le_refl _ | decide | omega)) (da_cons (de_tup (da_cons (de_tup (da_cons (de_int) (da_cons (de_int) (da_nil)))) (da_cons (de_tup (da_cons (de_int) (da_cons (de_int) (da_nil)))) (da_nil)))) (da_cons (de_tup (da_cons (de_tup (da_cons (de_int) (da_cons (de_int) (da_nil)))) (da_cons (de_tup (da_cons (de_int) (da_cons (de_int) (da_nil)))) (da_nil)))) (da_nil))) (aLen_cons (aLen_cons (aLen_nil)))).de) (da_cons (de_tup (da_cons (de_int) (da_cons (de_int) (da_cons (de_int) (da_nil))))) (da_nil))) (aLen_cons (aLen_cons (aLen_nil)))).de))) (dw_or1 (dt_cmp (op_notNB) v_dat ((dc_cal0 h_meeting (hr.mono (by first | exact Nat.le_refl _ | decide | omega)) (da_cons (de_tup (da_cons (de_int) (da_cons (de_int) (da_cons (de_int) (da_nil))))) (da_cons (de_tup (da_cons (de_int) (da_cons (de_int) (da_cons (de_int) (da_nil))))) (da_nil))) (aLen_cons (aLen_cons (aLen_nil)))).de) (de_non)))).dt) (dss_one (ds_ret (de_bl))) (dss_nil))
  (dss_one (ds_ret (de_and ((dc_cal0 h__law_same (hr.mono (by first | exact Nat.le_refl _ | decide | omega)) (da_cons ((dc_cal0 h_mirror_point (hr.mono (by first | exact Nat.le_refl _ | decide | omega)) (da_cons (de_tup (da_cons (de_int) (da_cons (de_int) (da_cons (de_int) (da_nil))))) (da_cons (de_tup (da_cons (de_tup (da_cons (de_int) (da_cons (de_int) (da_nil)))) (da_cons (de_tup (da_cons (de_int) (da_cons (de_int) (da_nil)))) (da_nil)))) (da_nil))) (aLen_cons (aLen_cons (aLen_nil)))).de) (da_cons (de_tup (da_cons (de_tup (da_cons (de_int) (da_cons (de_int) (da_nil)))) (da_cons (de_tup (da_cons (de_un un_neg v_neg (de_int)) (da_cons (de_int) (da_nil)))) (da_nil)))) (da_nil))) (aLen_cons (aLen_cons (aLen_nil)))).de) (de_one ((dc_cal0 h__law_on (hr.mono (by first | exact Nat.le_refl _ | decide | omega)) (da_cons (de_var 10) (da_cons (de_slice (de_var 5) (do_some (de_int)) (do_none)) (da_nil))) (aLen_cons (aLen_cons (aLen_nil)))).de)))))))))))))))))))))⟩)
end
/-! ### what the top has written -/
theorem all_mk {l : PySem.W.OpenLaw} {w : World} {K : PySem.W.Frag} {h : Heap} {mg : Str → Option Value} {fa : Addr} (X : K.In h) (G : h.Ns mainGlobals mg) (hfa : mg "law" = some (.ref fa))
    {f0 : Addr} {od0 an0 : Option Addr} {sl0 : Array (Option Value)} {oc0 kV0 dc0 pm0 cd0 ct0 : Value}
    {f1 : Addr} {od1 an1 : Option Addr} {sl1 : Array (Option Value)} {oc1 kV1 dc1 pm1 cd1 ct1 : Value}
    {f2 : Addr} {od2 an2 : Option Addr} {sl2 : Array (Option Value)} {oc2 kV2 dc2 pm2 cd2 ct2 : Value}
    {f3 : Addr} {od3 an3 : Option Addr} {sl3 : Array (Option Value)} {oc3 kV3 dc3 pm3 cd3 ct3 : Value}
    {f4 : Addr} {od4 an4 : Option Addr} {sl4 : Array (Option Value)} {oc4 kV4 dc4 pm4 cd4 ct4 : Value}
    {f5 : Addr} {od5 an5 : Option Addr} {sl5 : Array (Option Value)} {oc5 kV5 dc5 pm5 cd5 ct5 : Value}
    {f6 : Addr} {od6 an6 : Option Addr} {sl6 : Array (Option Value)} {oc6 kV6 dc6 pm6 cd6 ct6 : Value}
    {f7 : Addr} {od7 an7 : Option Addr} {sl7 : Array (Option Value)} {oc7 kV7 dc7 pm7 cd7 ct7 : Value}
    {f8 : Addr} {od8 an8 : Option Addr} {sl8 : Array (Option Value)} {oc8 kV8 dc8 pm8 cd8 ct8 : Value}
    {f9 : Addr} {od9 an9 : Option Addr} {sl9 : Array (Option Value)} {oc9 kV9 dc9 pm9 cd9 ct9 : Value}
    {f10 : Addr} {od10 an10 : Option Addr} {sl10 : Array (Option Value)} {oc10 kV10 dc10 pm10 cd10 ct10 : Value}
    {f11 : Addr} {od11 an11 : Option Addr} {sl11 : Array (Option Value)} {oc11 kV11 dc11 pm11 cd11 ct11 : Value}
    {f12 : Addr} {od12 an12 : Option Addr} {sl12 : Array (Option Value)} {oc12 kV12 dc12 pm12 cd12 ct12 : Value}
    {f13 : Addr} {od13 an13 : Option Addr} {sl13 : Array (Option Value)} {oc13 kV13 dc13 pm13 cd13 ct13 : Value}
    {f14 : Addr} {od14 an14 : Option Addr} {sl14 : Array (Option Value)} {oc14 kV14 dc14 pm14 cd14 ct14 : Value}
    {f15 : Addr} {od15 an15 : Option Addr} {sl15 : Array (Option Value)} {oc15 kV15 dc15 pm15 cd15 ct15 : Value}
    {f16 : Addr} {od16 an16 : Option Addr} {sl16 : Array (Option Value)} {oc16 kV16 dc16 pm16 cd16 ct16 : Value}
    {f17 : Addr} {od17 an17 : Option Addr} {sl17 : Array (Option Value)} {oc17 kV17 dc17 pm17 cd17 ct17 : Value}
    {f18 : Addr} {od18 an18 : Option Addr} {sl18 : Array (Option Value)} {oc18 kV18 dc18 pm18 cd18 ct18 : Value}
    {f19 : Addr} {od19 an19 : Option Addr} {sl19 : Array (Option Value)} {oc19 kV19 dc19 pm19 cd19 ct19 : Value}
    {f20 : Addr} {od20 an20 : Option Addr} {sl20 : Array (Option Value)} {oc20 kV20 dc20 pm20 cd20 ct20 : Value}
    {f21 : Addr} {od21 an21 : Option Addr} {sl21 : Array (Option Value)} {oc21 kV21 dc21 pm21 cd21 ct21 : Value}
    {f22 : Addr} {od22 an22 : Option Addr} {sl22 : Array (Option Value)} {oc22 kV22 dc22 pm22 cd22 ct22 : Value}
    {f23 : Addr} {od23 an23 : Option Addr} {sl23 : Array (Option Value)} {oc23 kV23 dc23 pm23 cd23 ct23 : Value}
    {f24 : Addr} {od24 an24 : Option Addr} {sl24 : Array (Option Value)} {oc24 kV24 dc24 pm24 cd24 ct24 : Value}
    {f25 : Addr} {od25 an25 : Option Addr} {sl25 : Array (Option Value)} {oc25 kV25 dc25 pm25 cd25 ct25 : Value}
    {f26 : Addr} {od26 an26 : Option Addr} {sl26 : Array (Option Value)} {oc26 kV26 dc26 pm26 cd26 ct26 : Value}
    {f27 : Addr} {od27 an27 : Option Addr} {sl27 : Array (Option Value)} {oc27 kV27 dc27 pm27 cd27 ct27 : Value}
    {f28 : Addr} {od28 an28 : Option Addr} {sl28 : Array (Option Value)} {oc28 kV28 dc28 pm28 cd28 ct28 : Value}
    {f29 : Addr} {od29 an29 : Option Addr} {sl29 : Array (Option Value)} {oc29 kV29 dc29 pm29 cd29 ct29 : Value}
    {f30 : Addr} {od30 an30 : Option Addr} {sl30 : Array (Option Value)} {oc30 kV30 dc30 pm30 cd30 ct30 : Value}
    {f31 : Addr} {od31 an31 : Option Addr} {sl31 : Array (Option Value)} {oc31 kV31 dc31 pm31 cd31 ct31 : Value}
    {f32 : Addr} {od32 an32 : Option Addr} {sl32 : Array (Option Value)} {oc32 kV32 dc32 pm32 cd32 ct32 : Value}
    {f33 : Addr} {od33 an33 : Option Addr} {sl33 : Array (Option Value)} {oc33 kV33 dc33 pm33 cd33 ct33 : Value}
    {f34 : Addr} {od34 an34 : Option Addr} {sl34 : Array (Option Value)} {oc34 kV34 dc34 pm34 cd34 ct34 : Value}
    {f35 : Addr} {od35 an35 : Option Addr} {sl35 : Array (Option Value)} {oc35 kV35 dc35 pm35 cd35 ct35 : Value}
    {f36 : Addr} {od36 an36 : Option Addr} {sl36 : Array (Option Value)} {oc36 kV36 dc36 pm36 cd36 ct36 : Value}
    {f37 : Addr} {od37 an37 : Option Addr} {sl37 : Array (Option Value)} {oc37 kV37 dc37 pm37 cd37 ct37 : Value}
    {f38 : Addr} {od38 an38 : Option Addr} {sl38 : Array (Option Value)} {oc38 kV38 dc38 pm38 cd38 ct38 : Value}
    {f39 : Addr} {od39 an39 : Option Addr} {sl39 : Array (Option Value)} {oc39 kV39 dc39 pm39 cd39 ct39 : Value}
    {f40 : Addr} {od40 an40 : Option Addr} {sl40 : Array (Option Value)} {oc40 kV40 dc40 pm40 cd40 ct40 : Value}
    (a0 : PySem.W.nsIn K mainGlobals "_law_draws" = some (some (.ref f0))) (l0 : K.lookup f0 = some ⟨oc0, od0, .func (PySem.W.fnOf "_law_draws" "_law_draws" (defArgs t__law_draws) (defBody t__law_draws) (defScope t__law_draws) .none kV0 dc0 pm0 an0 cd0 ct0), sl0⟩) (c0 : PySem.W.codeIn K cd0 "_law_draws" = true) (k0 : PySem.W.keepIn K (.ref f0) = true)
    (a1 : PySem.W.nsIn K mainGlobals "_law_take" = some (some (.ref f1))) (l1 : K.lookup f1 = some ⟨oc1, od1, .func (PySem.W.fnOf "_law_take" "_law_take" (defArgs t__law_take) (defBody t__law_take) (defScope t__law_take) .none kV1 dc1 pm1 an1 cd1 ct1), sl1⟩) (c1 : PySem.W.codeIn K cd1 "_law_take" = true) (k1 : PySem.W.keepIn K (.ref f1) = true)
    (a2 : PySem.W.nsIn K mainGlobals "_law_cell" = some (some (.ref f2))) (l2 : K.lookup f2 = some ⟨oc2, od2, .func (PySem.W.fnOf "_law_cell" "_law_cell" (defArgs t__law_cell) (defBody t__law_cell) (defScope t__law_cell) .none kV2 dc2 pm2 an2 cd2 ct2), sl2⟩) (c2 : PySem.W.codeIn K cd2 "_law_cell" = true) (k2 : PySem.W.keepIn K (.ref f2) = true)
    (a3 : PySem.W.nsIn K mainGlobals "_law_shared" = some (some (.ref f3))) (l3 : K.lookup f3 = some ⟨oc3, od3, .func (PySem.W.fnOf "_law_shared" "_law_shared" (defArgs t__law_shared) (defBody t__law_shared) (defScope t__law_shared) .none kV3 dc3 pm3 an3 cd3 ct3), sl3⟩) (c3 : PySem.W.codeIn K cd3 "_law_shared" = true) (k3 : PySem.W.keepIn K (.ref f3) = true)
    (a4 : PySem.W.nsIn K mainGlobals "_law_frac" = some (some (.ref f4))) (l4 : K.lookup f4 = some ⟨oc4, od4, .func (PySem.W.fnOf "_law_frac" "_law_frac" (defArgs t__law_frac) (defBody t__law_frac) (defScope t__law_frac) .none kV4 dc4 pm4 an4 cd4 ct4), sl4⟩) (c4 : PySem.W.codeIn K cd4 "_law_frac" = true) (k4 : PySem.W.keepIn K (.ref f4) = true)
    (a5 : PySem.W.nsIn K mainGlobals "_law_less" = some (some (.ref f5))) (l5 : K.lookup f5 = some ⟨oc5, od5, .func (PySem.W.fnOf "_law_less" "_law_less" (defArgs t__law_less) (defBody t__law_less) (defScope t__law_less) .none kV5 dc5 pm5 an5 cd5 ct5), sl5⟩) (c5 : PySem.W.codeIn K cd5 "_law_less" = true) (k5 : PySem.W.keepIn K (.ref f5) = true)
    (a6 : PySem.W.nsIn K mainGlobals "_law_line" = some (some (.ref f6))) (l6 : K.lookup f6 = some ⟨oc6, od6, .func (PySem.W.fnOf "_law_line" "_law_line" (defArgs t__law_line) (defBody t__law_line) (defScope t__law_line) .none kV6 dc6 pm6 an6 cd6 ct6), sl6⟩) (c6 : PySem.W.codeIn K cd6 "_law_line" = true) (k6 : PySem.W.keepIn K (.ref f6) = true)
    (a7 : PySem.W.nsIn K mainGlobals "_law_add" = some (some (.ref f7))) (l7 : K.lookup f7 = some ⟨oc7, od7, .func (PySem.W.fnOf "_law_add" "_law_add" (defArgs t__law_add) (defBody t__law_add) (defScope t__law_add) .none kV7 dc7 pm7 an7 cd7 ct7), sl7⟩) (c7 : PySem.W.codeIn K cd7 "_law_add" = true) (k7 : PySem.W.keepIn K (.ref f7) = true)
    (a8 : PySem.W.nsIn K mainGlobals "_law_mul" = some (some (.ref f8))) (l8 : K.lookup f8 = some ⟨oc8, od8, .func (PySem.W.fnOf "_law_mul" "_law_mul" (defArgs t__law_mul) (defBody t__law_mul) (defScope t__law_mul) .none kV8 dc8 pm8 an8 cd8 ct8), sl8⟩) (c8 : PySem.W.codeIn K cd8 "_law_mul" = true) (k8 : PySem.W.keepIn K (.ref f8) = true)
    (a9 : PySem.W.nsIn K mainGlobals "_law_through" = some (some (.ref f9))) (l9 : K.lookup f9 = some ⟨oc9, od9, .func (PySem.W.fnOf "_law_through" "_law_through" (defArgs t__law_through) (defBody t__law_through) (defScope t__law_through) .none kV9 dc9 pm9 an9 cd9 ct9), sl9⟩) (c9 : PySem.W.codeIn K cd9 "_law_through" = true) (k9 : PySem.W.keepIn K (.ref f9) = true)
    (a10 : PySem.W.nsIn K mainGlobals "divisor" = some (some (.ref f10))) (l10 : K.lookup f10 = some ⟨oc10, od10, .func (PySem.W.fnOf "divisor" "divisor" (defArgs t_divisor) (defBody t_divisor) (defScope t_divisor) .none kV10 dc10 pm10 an10 cd10 ct10), sl10⟩) (c10 : PySem.W.codeIn K cd10 "divisor" = true) (k10 : PySem.W.keepIn K (.ref f10) = true)
    (a11 : PySem.W.nsIn K mainGlobals "fraction" = some (some (.ref f11))) (l11 : K.lookup f11 = some ⟨oc11, od11, .func (PySem.W.fnOf "fraction" "fraction" (defArgs t_fraction) (defBody t_fraction) (defScope t_fraction) .none kV11 dc11 pm11 an11 cd11 ct11), sl11⟩) (c11 : PySem.W.codeIn K cd11 "fraction" = true) (k11 : PySem.W.keepIn K (.ref f11) = true)
    (a12 : PySem.W.nsIn K mainGlobals "times" = some (some (.ref f12))) (l12 : K.lookup f12 = some ⟨oc12, od12, .func (PySem.W.fnOf "times" "times" (defArgs t_times) (defBody t_times) (defScope t_times) .none kV12 dc12 pm12 an12 cd12 ct12), sl12⟩) (c12 : PySem.W.codeIn K cd12 "times" = true) (k12 : PySem.W.keepIn K (.ref f12) = true)
    (a13 : PySem.W.nsIn K mainGlobals "in_order" = some (some (.ref f13))) (l13 : K.lookup f13 = some ⟨oc13, od13, .func (PySem.W.fnOf "in_order" "in_order" (defArgs t_in_order) (defBody t_in_order) (defScope t_in_order) .none kV13 dc13 pm13 an13 cd13 ct13), sl13⟩) (c13 : PySem.W.codeIn K cd13 "in_order" = true) (k13 : PySem.W.keepIn K (.ref f13) = true)
    (a14 : PySem.W.nsIn K mainGlobals "minus" = some (some (.ref f14))) (l14 : K.lookup f14 = some ⟨oc14, od14, .func (PySem.W.fnOf "minus" "minus" (defArgs t_minus) (defBody t_minus) (defScope t_minus) .none kV14 dc14 pm14 an14 cd14 ct14), sl14⟩) (c14 : PySem.W.codeIn K cd14 "minus" = true) (k14 : PySem.W.keepIn K (.ref f14) = true)
    (a15 : PySem.W.nsIn K mainGlobals "plus" = some (some (.ref f15))) (l15 : K.lookup f15 = some ⟨oc15, od15, .func (PySem.W.fnOf "plus" "plus" (defArgs t_plus) (defBody t_plus) (defScope t_plus) .none kV15 dc15 pm15 an15 cd15 ct15), sl15⟩) (c15 : PySem.W.codeIn K cd15 "plus" = true) (k15 : PySem.W.keepIn K (.ref f15) = true)
    (a16 : PySem.W.nsIn K mainGlobals "square_sum" = some (some (.ref f16))) (l16 : K.lookup f16 = some ⟨oc16, od16, .func (PySem.W.fnOf "square_sum" "square_sum" (defArgs t_square_sum) (defBody t_square_sum) (defScope t_square_sum) .none kV16 dc16 pm16 an16 cd16 ct16), sl16⟩) (c16 : PySem.W.codeIn K cd16 "square_sum" = true) (k16 : PySem.W.keepIn K (.ref f16) = true)
    (a17 : PySem.W.nsIn K mainGlobals "point_on_point" = some (some (.ref f17))) (l17 : K.lookup f17 = some ⟨oc17, od17, .func (PySem.W.fnOf "point_on_point" "point_on_point" (defArgs t_point_on_point) (defBody t_point_on_point) (defScope t_point_on_point) .none kV17 dc17 pm17 an17 cd17 ct17), sl17⟩) (c17 : PySem.W.codeIn K cd17 "point_on_point" = true) (k17 : PySem.W.keepIn K (.ref f17) = true)
    (a18 : PySem.W.nsIn K mainGlobals "_law_same" = some (some (.ref f18))) (l18 : K.lookup f18 = some ⟨oc18, od18, .func (PySem.W.fnOf "_law_same" "_law_same" (defArgs t__law_same) (defBody t__law_same) (defScope t__law_same) .none kV18 dc18 pm18 an18 cd18 ct18), sl18⟩) (c18 : PySem.W.codeIn K cd18 "_law_same" = true) (k18 : PySem.W.keepIn K (.ref f18) = true)
    (a19 : PySem.W.nsIn K mainGlobals "_law_beyond" = some (some (.ref f19))) (l19 : K.lookup f19 = some ⟨oc19, od19, .func (PySem.W.fnOf "_law_beyond" "_law_beyond" (defArgs t__law_beyond) (defBody t__law_beyond) (defScope t__law_beyond) .none kV19 dc19 pm19 an19 cd19 ct19), sl19⟩) (c19 : PySem.W.codeIn K cd19 "_law_beyond" = true) (k19 : PySem.W.keepIn K (.ref f19) = true)
    (a20 : PySem.W.nsIn K mainGlobals "_law_mirror" = some (some (.ref f20))) (l20 : K.lookup f20 = some ⟨oc20, od20, .func (PySem.W.fnOf "_law_mirror" "_law_mirror" (defArgs t__law_mirror) (defBody t__law_mirror) (defScope t__law_mirror) .none kV20 dc20 pm20 an20 cd20 ct20), sl20⟩) (c20 : PySem.W.codeIn K cd20 "_law_mirror" = true) (k20 : PySem.W.keepIn K (.ref f20) = true)
    (a21 : PySem.W.nsIn K mainGlobals "line_through" = some (some (.ref f21))) (l21 : K.lookup f21 = some ⟨oc21, od21, .func (PySem.W.fnOf "line_through" "line_through" (defArgs t_line_through) (defBody t_line_through) (defScope t_line_through) .none kV21 dc21 pm21 an21 cd21 ct21), sl21⟩) (c21 : PySem.W.codeIn K cd21 "line_through" = true) (k21 : PySem.W.keepIn K (.ref f21) = true)
    (a22 : PySem.W.nsIn K mainGlobals "divided" = some (some (.ref f22))) (l22 : K.lookup f22 = some ⟨oc22, od22, .func (PySem.W.fnOf "divided" "divided" (defArgs t_divided) (defBody t_divided) (defScope t_divided) .none kV22 dc22 pm22 an22 cd22 ct22), sl22⟩) (c22 : PySem.W.codeIn K cd22 "divided" = true) (k22 : PySem.W.keepIn K (.ref f22) = true)
    (a23 : PySem.W.nsIn K mainGlobals "meeting" = some (some (.ref f23))) (l23 : K.lookup f23 = some ⟨oc23, od23, .func (PySem.W.fnOf "meeting" "meeting" (defArgs t_meeting) (defBody t_meeting) (defScope t_meeting) .none kV23 dc23 pm23 an23 cd23 ct23), sl23⟩) (c23 : PySem.W.codeIn K cd23 "meeting" = true) (k23 : PySem.W.keepIn K (.ref f23) = true)
    (a24 : PySem.W.nsIn K mainGlobals "_law_at" = some (some (.ref f24))) (l24 : K.lookup f24 = some ⟨oc24, od24, .func (PySem.W.fnOf "_law_at" "_law_at" (defArgs t__law_at) (defBody t__law_at) (defScope t__law_at) .none kV24 dc24 pm24 an24 cd24 ct24), sl24⟩) (c24 : PySem.W.codeIn K cd24 "_law_at" = true) (k24 : PySem.W.keepIn K (.ref f24) = true)
    (a25 : PySem.W.nsIn K mainGlobals "beyond" = some (some (.ref f25))) (l25 : K.lookup f25 = some ⟨oc25, od25, .func (PySem.W.fnOf "beyond" "beyond" (defArgs t_beyond) (defBody t_beyond) (defScope t_beyond) .none kV25 dc25 pm25 an25 cd25 ct25), sl25⟩) (c25 : PySem.W.codeIn K cd25 "beyond" = true) (k25 : PySem.W.keepIn K (.ref f25) = true)
    (a26 : PySem.W.nsIn K mainGlobals "side" = some (some (.ref f26))) (l26 : K.lookup f26 = some ⟨oc26, od26, .func (PySem.W.fnOf "side" "side" (defArgs t_side) (defBody t_side) (defScope t_side) .none kV26 dc26 pm26 an26 cd26 ct26), sl26⟩) (c26 : PySem.W.codeIn K cd26 "side" = true) (k26 : PySem.W.keepIn K (.ref f26) = true)
    (a27 : PySem.W.nsIn K mainGlobals "_law_sign" = some (some (.ref f27))) (l27 : K.lookup f27 = some ⟨oc27, od27, .func (PySem.W.fnOf "_law_sign" "_law_sign" (defArgs t__law_sign) (defBody t__law_sign) (defScope t__law_sign) .none kV27 dc27 pm27 an27 cd27 ct27), sl27⟩) (c27 : PySem.W.codeIn K cd27 "_law_sign" = true) (k27 : PySem.W.keepIn K (.ref f27) = true)
    (a28 : PySem.W.nsIn K mainGlobals "mirror_point" = some (some (.ref f28))) (l28 : K.lookup f28 = some ⟨oc28, od28, .func (PySem.W.fnOf "mirror_point" "mirror_point" (defArgs t_mirror_point) (defBody t_mirror_point) (defScope t_mirror_point) .none kV28 dc28 pm28 an28 cd28 ct28), sl28⟩) (c28 : PySem.W.codeIn K cd28 "mirror_point" = true) (k28 : PySem.W.keepIn K (.ref f28) = true)
    (a29 : PySem.W.nsIn K mainGlobals "lays_on" = some (some (.ref f29))) (l29 : K.lookup f29 = some ⟨oc29, od29, .func (PySem.W.fnOf "lays_on" "lays_on" (defArgs t_lays_on) (defBody t_lays_on) (defScope t_lays_on) .none kV29 dc29 pm29 an29 cd29 ct29), sl29⟩) (c29 : PySem.W.codeIn K cd29 "lays_on" = true) (k29 : PySem.W.keepIn K (.ref f29) = true)
    (a30 : PySem.W.nsIn K mainGlobals "line_on_itself" = some (some (.ref f30))) (l30 : K.lookup f30 = some ⟨oc30, od30, .func (PySem.W.fnOf "line_on_itself" "line_on_itself" (defArgs t_line_on_itself) (defBody t_line_on_itself) (defScope t_line_on_itself) .none kV30 dc30 pm30 an30 cd30 ct30), sl30⟩) (c30 : PySem.W.codeIn K cd30 "line_on_itself" = true) (k30 : PySem.W.keepIn K (.ref f30) = true)
    (a31 : PySem.W.nsIn K mainGlobals "_law_large" = some (some (.ref f31))) (l31 : K.lookup f31 = some ⟨oc31, od31, .func (PySem.W.fnOf "_law_large" "_law_large" (defArgs t__law_large) (defBody t__law_large) (defScope t__law_large) .none kV31 dc31 pm31 an31 cd31 ct31), sl31⟩) (c31 : PySem.W.codeIn K cd31 "_law_large" = true) (k31 : PySem.W.keepIn K (.ref f31) = true)
    (a32 : PySem.W.nsIn K mainGlobals "_law_on" = some (some (.ref f32))) (l32 : K.lookup f32 = some ⟨oc32, od32, .func (PySem.W.fnOf "_law_on" "_law_on" (defArgs t__law_on) (defBody t__law_on) (defScope t__law_on) .none kV32 dc32 pm32 an32 cd32 ct32), sl32⟩) (c32 : PySem.W.codeIn K cd32 "_law_on" = true) (k32 : PySem.W.keepIn K (.ref f32) = true)
    (a33 : PySem.W.nsIn K mainGlobals "_law_item" = some (some (.ref f33))) (l33 : K.lookup f33 = some ⟨oc33, od33, .func (PySem.W.fnOf "_law_item" "_law_item" (defArgs t__law_item) (defBody t__law_item) (defScope t__law_item) .none kV33 dc33 pm33 an33 cd33 ct33), sl33⟩) (c33 : PySem.W.codeIn K cd33 "_law_item" = true) (k33 : PySem.W.keepIn K (.ref f33) = true)
    (a34 : PySem.W.nsIn K mainGlobals "_law_point" = some (some (.ref f34))) (l34 : K.lookup f34 = some ⟨oc34, od34, .func (PySem.W.fnOf "_law_point" "_law_point" (defArgs t__law_point) (defBody t__law_point) (defScope t__law_point) .none kV34 dc34 pm34 an34 cd34 ct34), sl34⟩) (c34 : PySem.W.codeIn K cd34 "_law_point" = true) (k34 : PySem.W.keepIn K (.ref f34) = true)
    (a35 : PySem.W.nsIn K mainGlobals "two_points" = some (some (.ref f35))) (l35 : K.lookup f35 = some ⟨oc35, od35, .func (PySem.W.fnOf "two_points" "two_points" (defArgs t_two_points) (defBody t_two_points) (defScope t_two_points) .none kV35 dc35 pm35 an35 cd35 ct35), sl35⟩) (c35 : PySem.W.codeIn K cd35 "two_points" = true) (k35 : PySem.W.keepIn K (.ref f35) = true)
    (a36 : PySem.W.nsIn K mainGlobals "mirror_line" = some (some (.ref f36))) (l36 : K.lookup f36 = some ⟨oc36, od36, .func (PySem.W.fnOf "mirror_line" "mirror_line" (defArgs t_mirror_line) (defBody t_mirror_line) (defScope t_mirror_line) .none kV36 dc36 pm36 an36 cd36 ct36), sl36⟩) (c36 : PySem.W.codeIn K cd36 "mirror_line" = true) (k36 : PySem.W.keepIn K (.ref f36) = true)
    (a37 : PySem.W.nsIn K mainGlobals "_law_lines" = some (some (.ref f37))) (l37 : K.lookup f37 = some ⟨oc37, od37, .func (PySem.W.fnOf "_law_lines" "_law_lines" (defArgs t__law_lines) (defBody t__law_lines) (defScope t__law_lines) .none kV37 dc37 pm37 an37 cd37 ct37), sl37⟩) (c37 : PySem.W.codeIn K cd37 "_law_lines" = true) (k37 : PySem.W.keepIn K (.ref f37) = true)
    (a38 : PySem.W.nsIn K mainGlobals "_law_folds" = some (some (.ref f38))) (l38 : K.lookup f38 = some ⟨oc38, od38, .func (PySem.W.fnOf "_law_folds" "_law_folds" (defArgs t__law_folds) (defBody t__law_folds) (defScope t__law_folds) .none kV38 dc38 pm38 an38 cd38 ct38), sl38⟩) (c38 : PySem.W.codeIn K cd38 "_law_folds" = true) (k38 : PySem.W.keepIn K (.ref f38) = true)
    (a39 : PySem.W.nsIn K mainGlobals "_law_square" = some (some (.ref f39))) (l39 : K.lookup f39 = some ⟨oc39, od39, .func (PySem.W.fnOf "_law_square" "_law_square" (defArgs t__law_square) (defBody t__law_square) (defScope t__law_square) .none kV39 dc39 pm39 an39 cd39 ct39), sl39⟩) (c39 : PySem.W.codeIn K cd39 "_law_square" = true) (k39 : PySem.W.keepIn K (.ref f39) = true)
    (a40 : PySem.W.nsIn K mainGlobals "law" = some (some (.ref f40))) (l40 : K.lookup f40 = some ⟨oc40, od40, .func (PySem.W.fnOf "law" "law" (defArgs t_law) (defBody t_law) (defScope t_law) .none kV40 dc40 pm40 an40 cd40 ct40), sl40⟩) (c40 : PySem.W.codeIn K cd40 "law" = true) (k40 : PySem.W.keepIn K (.ref f40) = true)
    (z_abs : PySem.W.nsIn K mainGlobals "abs" = some none)
    (z_bool : PySem.W.nsIn K mainGlobals "bool" = some none)
    (z_int : PySem.W.nsIn K mainGlobals "int" = some none)
    (z_isinstance : PySem.W.nsIn K mainGlobals "isinstance" = some none)
    (z_len : PySem.W.nsIn K mainGlobals "len" = some none)
    (z_list : PySem.W.nsIn K mainGlobals "list" = some none)
    (z_range : PySem.W.nsIn K mainGlobals "range" = some none)
    (z_str : PySem.W.nsIn K mainGlobals "str" = some none)
    (z_tuple : PySem.W.nsIn K mainGlobals "tuple" = some none) :
    ∃ fd : FuncData, (∀ (s : Shared) (v : Value), BindsTo s fd ⟨[v], []⟩ [("script", v)]) ∧ ∀ base : Heap, K.In base → base.Ns mainGlobals mg → FnOk l.prog w K mg base CX0 14 fa fd ["script"] (fun vs H Q E => vs.length = ["script"].length ∧ spD K [] m_law vs H Q E) := by
  have e := hfa.symm.trans (PySem.W.mg_of X G a40)
  cases e
  have z_abs' := PySem.W.mg_none_of X G z_abs
  have z_bool' := PySem.W.mg_none_of X G z_bool
  have z_int' := PySem.W.mg_none_of X G z_int
  have z_isinstance' := PySem.W.mg_none_of X G z_isinstance
  have z_len' := PySem.W.mg_none_of X G z_len
  have z_list' := PySem.W.mg_none_of X G z_list
  have z_range' := PySem.W.mg_none_of X G z_range
  have z_str' := PySem.W.mg_none_of X G z_str
  have z_tuple' := PySem.W.mg_none_of X G z_tuple
  have S0 : Src K mg "_law_draws" t__law_draws ["script", "many"] := src_mk (PySem.W.mg_of X G a0) l0 c0 k0 (fun _ _ _ _ _ _ us hl => match us, hl with | [_, _], _ => rfl)
  have S1 : Src K mg "_law_take" t__law_take ["draws", "many"] := src_mk (PySem.W.mg_of X G a1) l1 c1 k1 (fun _ _ _ _ _ _ us hl => match us, hl with | [_, _], _ => rfl)
  have S2 : Src K mg "_law_cell" t__law_cell ["script", "draws"] := src_mk (PySem.W.mg_of X G a2) l2 c2 k2 (fun _ _ _ _ _ _ us hl => match us, hl with | [_, _], _ => rfl)
  have S3 : Src K mg "_law_shared" t__law_shared ["one", "other"] := src_mk (PySem.W.mg_of X G a3) l3 c3 k3 (fun _ _ _ _ _ _ us hl => match us, hl with | [_, _], _ => rfl)
  have S4 : Src K mg "_law_frac" t__law_frac ["n", "d"] := src_mk (PySem.W.mg_of X G a4) l4 c4 k4 (fun _ _ _ _ _ _ us hl => match us, hl with | [_, _], _ => rfl)
  have S5 : Src K mg "_law_less" t__law_less ["one", "other"] := src_mk (PySem.W.mg_of X G a5) l5 c5 k5 (fun _ _ _ _ _ _ us hl => match us, hl with | [_, _], _ => rfl)
  have S6 : Src K mg "_law_line" t__law_line ["a", "b", "c"] := src_mk (PySem.W.mg_of X G a6) l6 c6 k6 (fun _ _ _ _ _ _ us hl => match us, hl with | [_, _, _], _ => rfl)
  have S7 : Src K mg "_law_add" t__law_add ["one", "other"] := src_mk (PySem.W.mg_of X G a7) l7 c7 k7 (fun _ _ _ _ _ _ us hl => match us, hl with | [_, _], _ => rfl)
  have S8 : Src K mg "_law_mul" t__law_mul ["one", "other"] := src_mk (PySem.W.mg_of X G a8) l8 c8 k8 (fun _ _ _ _ _ _ us hl => match us, hl with | [_, _], _ => rfl)
  have S9 : Src K mg "_law_through" t__law_through ["one", "other"] := src_mk (PySem.W.mg_of X G a9) l9 c9 k9 (fun _ _ _ _ _ _ us hl => match us, hl with | [_, _], _ => rfl)
  have S10 : Src K mg "divisor" t_divisor ["one", "other"] := src_mk (PySem.W.mg_of X G a10) l10 c10 k10 (fun _ _ _ _ _ _ us hl => match us, hl with | [_, _], _ => rfl)
  have S11 : Src K mg "fraction" t_fraction ["n", "d"] := src_mk (PySem.W.mg_of X G a11) l11 c11 k11 (fun _ _ _ _ _ _ us hl => match us, hl with | [_, _], _ => rfl)
  have S12 : Src K mg "times" t_times ["one", "other"] := src_mk (PySem.W.mg_of X G a12) l12 c12 k12 (fun _ _ _ _ _ _ us hl => match us, hl with | [_, _], _ => rfl)
  have S13 : Src K mg "in_order" t_in_order ["a", "b", "c"] := src_mk (PySem.W.mg_of X G a13) l13 c13 k13 (fun _ _ _ _ _ _ us hl => match us, hl with | [_, _, _], _ => rfl)
  have S14 : Src K mg "minus" t_minus ["one", "other"] := src_mk (PySem.W.mg_of X G a14) l14 c14 k14 (fun _ _ _ _ _ _ us hl => match us, hl with | [_, _], _ => rfl)
  have S15 : Src K mg "plus" t_plus ["one", "other"] := src_mk (PySem.W.mg_of X G a15) l15 c15 k15 (fun _ _ _ _ _ _ us hl => match us, hl with | [_, _], _ => rfl)
  have S16 : Src K mg "square_sum" t_square_sum ["point"] := src_mk (PySem.W.mg_of X G a16) l16 c16 k16 (fun _ _ _ _ _ _ us hl => match us, hl with | [_], _ => rfl)
  have S17 : Src K mg "point_on_point" t_point_on_point ["one", "other"] := src_mk (PySem.W.mg_of X G a17) l17 c17 k17 (fun _ _ _ _ _ _ us hl => match us, hl with | [_, _], _ => rfl)
  have S18 : Src K mg "_law_same" t__law_same ["actual", "due"] := src_mk (PySem.W.mg_of X G a18) l18 c18 k18 (fun _ _ _ _ _ _ us hl => match us, hl with | [_, _], _ => rfl)
  have S19 : Src K mg "_law_beyond" t__law_beyond ["line", "point"] := src_mk (PySem.W.mg_of X G a19) l19 c19 k19 (fun _ _ _ _ _ _ us hl => match us, hl with | [_, _], _ => rfl)
  have S20 : Src K mg "_law_mirror" t__law_mirror ["line", "point"] := src_mk (PySem.W.mg_of X G a20) l20 c20 k20 (fun _ _ _ _ _ _ us hl => match us, hl with | [_, _], _ => rfl)
  have S21 : Src K mg "line_through" t_line_through ["one", "other"] := src_mk (PySem.W.mg_of X G a21) l21 c21 k21 (fun _ _ _ _ _ _ us hl => match us, hl with | [_, _], _ => rfl)
  have S22 : Src K mg "divided" t_divided ["one", "other"] := src_mk (PySem.W.mg_of X G a22) l22 c22 k22 (fun _ _ _ _ _ _ us hl => match us, hl with | [_, _], _ => rfl)
  have S23 : Src K mg "meeting" t_meeting ["one", "other"] := src_mk (PySem.W.mg_of X G a23) l23 c23 k23 (fun _ _ _ _ _ _ us hl => match us, hl with | [_, _], _ => rfl)
  have S24 : Src K mg "_law_at" t__law_at ["one", "other"] := src_mk (PySem.W.mg_of X G a24) l24 c24 k24 (fun _ _ _ _ _ _ us hl => match us, hl with | [_, _], _ => rfl)
  have S25 : Src K mg "beyond" t_beyond ["line", "point"] := src_mk (PySem.W.mg_of X G a25) l25 c25 k25 (fun _ _ _ _ _ _ us hl => match us, hl with | [_, _], _ => rfl)
  have S26 : Src K mg "side" t_side ["line", "point"] := src_mk (PySem.W.mg_of X G a26) l26 c26 k26 (fun _ _ _ _ _ _ us hl => match us, hl with | [_, _], _ => rfl)
  have S27 : Src K mg "_law_sign" t__law_sign ["number"] := src_mk (PySem.W.mg_of X G a27) l27 c27 k27 (fun _ _ _ _ _ _ us hl => match us, hl with | [_], _ => rfl)
  have S28 : Src K mg "mirror_point" t_mirror_point ["line", "point"] := src_mk (PySem.W.mg_of X G a28) l28 c28 k28 (fun _ _ _ _ _ _ us hl => match us, hl with | [_, _], _ => rfl)
  have S29 : Src K mg "lays_on" t_lays_on ["line", "one", "other"] := src_mk (PySem.W.mg_of X G a29) l29 c29 k29 (fun _ _ _ _ _ _ us hl => match us, hl with | [_, _, _], _ => rfl)
  have S30 : Src K mg "line_on_itself" t_line_on_itself ["line", "point"] := src_mk (PySem.W.mg_of X G a30) l30 c30 k30 (fun _ _ _ _ _ _ us hl => match us, hl with | [_, _], _ => rfl)
  have S31 : Src K mg "_law_large" t__law_large ["one", "other", "third", "fourth"] := src_mk (PySem.W.mg_of X G a31) l31 c31 k31 (fun _ _ _ _ _ _ us hl => match us, hl with | [_, _, _, _], _ => rfl)
  have S32 : Src K mg "_law_on" t__law_on ["line", "points"] := src_mk (PySem.W.mg_of X G a32) l32 c32 k32 (fun _ _ _ _ _ _ us hl => match us, hl with | [_, _], _ => rfl)
  have S33 : Src K mg "_law_item" t__law_item ["draws", "cell", "is_large"] := src_mk (PySem.W.mg_of X G a33) l33 c33 k33 (fun _ _ _ _ _ _ us hl => match us, hl with | [_, _, _], _ => rfl)
  have S34 : Src K mg "_law_point" t__law_point ["draws", "cell", "others", "is_large"] := src_mk (PySem.W.mg_of X G a34) l34 c34 k34 (fun _ _ _ _ _ _ us hl => match us, hl with | [_, _, _, _], _ => rfl)
  have S35 : Src K mg "two_points" t_two_points ["line"] := src_mk (PySem.W.mg_of X G a35) l35 c35 k35 (fun _ _ _ _ _ _ us hl => match us, hl with | [_], _ => rfl)
  have S36 : Src K mg "mirror_line" t_mirror_line ["line", "other"] := src_mk (PySem.W.mg_of X G a36) l36 c36 k36 (fun _ _ _ _ _ _ us hl => match us, hl with | [_, _], _ => rfl)
  have S37 : Src K mg "_law_lines" t__law_lines ["one", "other", "points"] := src_mk (PySem.W.mg_of X G a37) l37 c37 k37 (fun _ _ _ _ _ _ us hl => match us, hl with | [_, _, _], _ => rfl)
  have S38 : Src K mg "_law_folds" t__law_folds ["one", "other", "third"] := src_mk (PySem.W.mg_of X G a38) l38 c38 k38 (fun _ _ _ _ _ _ us hl => match us, hl with | [_, _, _], _ => rfl)
  have S39 : Src K mg "_law_square" t__law_square ["line", "point"] := src_mk (PySem.W.mg_of X G a39) l39 c39 k39 (fun _ _ _ _ _ _ us hl => match us, hl with | [_, _], _ => rfl)
  refine ⟨PySem.W.fnOf "law" "law" (defArgs t_law) (defBody t_law) (defScope t_law) .none kV40 dc40 pm40 an40 cd40 ct40, fun s v => .of_eq rfl, fun base _ _ => ?_⟩
  have h__law_draws := ok__law_draws (P := l.prog) (w := w) (base := base) S0 z_int' z_len' z_list' z_range'
  have h__law_take := ok__law_take (P := l.prog) (w := w) (base := base) S1 z_int' z_len'
  have h__law_cell := ok__law_cell (P := l.prog) (w := w) (base := base) S2 h__law_take z_int' z_len'
  have h__law_shared := ok__law_shared (P := l.prog) (w := w) (base := base) S3 z_abs' z_int' z_range'
  have h__law_frac := ok__law_frac (P := l.prog) (w := w) (base := base) S4 h__law_shared
  have h__law_less := ok__law_less (P := l.prog) (w := w) (base := base) S5 h__law_frac
  have h__law_line := ok__law_line (P := l.prog) (w := w) (base := base) S6 h__law_shared z_tuple'
  have h__law_add := ok__law_add (P := l.prog) (w := w) (base := base) S7 h__law_frac
  have h__law_mul := ok__law_mul (P := l.prog) (w := w) (base := base) S8 h__law_frac
  have h__law_through := ok__law_through (P := l.prog) (w := w) (base := base) S9 h__law_add h__law_less h__law_line h__law_mul
  have h_divisor := ok_divisor (P := l.prog) (w := w) (base := base) S10 z_abs'
  have h_fraction := ok_fraction (P := l.prog) (w := w) (base := base) S11 h_divisor
  have h_times := ok_times (P := l.prog) (w := w) (base := base) S12 h_fraction
  have h_in_order := ok_in_order (P := l.prog) (w := w) (base := base) S13 h_divisor z_tuple'
  have h_minus := ok_minus (P := l.prog) (w := w) (base := base) S14 h_fraction
  have h_plus := ok_plus (P := l.prog) (w := w) (base := base) S15 h_fraction
  have h_square_sum := ok_square_sum (P := l.prog) (w := w) (base := base) S16 h_plus h_times
  have h_point_on_point := ok_point_on_point (P := l.prog) (w := w) (base := base) S17 h_in_order h_minus h_square_sum h_times
  have h__law_same := ok__law_same (P := l.prog) (w := w) (base := base) S18 z_bool' z_int' z_isinstance' z_len' z_range' z_str' z_tuple' 12
  have h__law_beyond := ok__law_beyond (P := l.prog) (w := w) (base := base) S19 h__law_add h__law_less h__law_mul
  have h__law_mirror := ok__law_mirror (P := l.prog) (w := w) (base := base) S20 h__law_beyond h__law_less h__law_mul
  have h_line_through := ok_line_through (P := l.prog) (w := w) (base := base) S21 h_in_order h_minus h_plus h_times
  have h_divided := ok_divided (P := l.prog) (w := w) (base := base) S22 h_fraction
  have h_meeting := ok_meeting (P := l.prog) (w := w) (base := base) S23 h_divided
  have h__law_at := ok__law_at (P := l.prog) (w := w) (base := base) S24 h__law_frac
  have h_beyond := ok_beyond (P := l.prog) (w := w) (base := base) S25 h_minus h_plus h_times
  have h_side := ok_side (P := l.prog) (w := w) (base := base) S26 h_beyond
  have h__law_sign := ok__law_sign (P := l.prog) (w := w) (base := base) S27 z_int'
  have h_mirror_point := ok_mirror_point (P := l.prog) (w := w) (base := base) S28 h_beyond h_divided h_minus h_times
  have h_lays_on := ok_lays_on (P := l.prog) (w := w) (base := base) S29 h_mirror_point
  have h_line_on_itself := ok_line_on_itself (P := l.prog) (w := w) (base := base) S30 h_in_order h_minus h_times
  have h__law_large := ok__law_large (P := l.prog) (w := w) (base := base) S31 h__law_at h__law_beyond h__law_less h__law_line h__law_mirror h__law_mul h__law_same h__law_sign h__law_through h_lays_on h_line_on_itself h_line_through h_meeting h_mirror_point h_point_on_point h_side
  have h__law_on := ok__law_on (P := l.prog) (w := w) (base := base) S32 h__law_beyond h__law_mirror h__law_same h__law_sign h_lays_on h_mirror_point h_side
  have h__law_item := ok__law_item (P := l.prog) (w := w) (base := base) S33 h__law_frac h__law_take z_int'
  have h__law_point := ok__law_point (P := l.prog) (w := w) (base := base) S34 h__law_add h__law_item h__law_take z_len' z_range'
  have h_two_points := ok_two_points (P := l.prog) (w := w) (base := base) S35 h_fraction h_minus h_plus
  have h_mirror_line := ok_mirror_line (P := l.prog) (w := w) (base := base) S36 h_line_through h_mirror_point h_two_points
  have h__law_lines := ok__law_lines (P := l.prog) (w := w) (base := base) S37 h__law_at h__law_mirror h__law_same h__law_through h_meeting h_mirror_line
  have h__law_folds := ok__law_folds (P := l.prog) (w := w) (base := base) S38 h__law_add h__law_less h__law_line h__law_mirror h__law_mul h__law_same h_lays_on h_mirror_point h_point_on_point
  have h__law_square := ok__law_square (P := l.prog) (w := w) (base := base) S39 h__law_less h__law_line h__law_mul h__law_same h_line_on_itself h_mirror_line h_side
  exact ok_law (fun_mk (st := t_law) l40 c40 k40) h__law_add h__law_beyond h__law_cell h__law_draws h__law_folds h__law_large h__law_less h__law_lines h__law_on h__law_point h__law_same h__law_square h__law_through h_line_on_itself h_line_through h_meeting h_mirror_point h_point_on_point h_side z_range'
end
end L2.G

namespace L2.G
open PySem PySem.Spec PyProof.Rows L2 L2.Pd
/-! ## the laws' own draws -/
def tk (ns : List Int) (n : Int) : Int := match ns.getLast? with
  | none => 0
  | some z => z.fmod n
theorem tk_nn {ns : List Int} {n : Int} (h : 0 < n) : 0 ≤ tk ns n := by
  unfold tk
  split
  · exact Int.le_refl 0
  · exact Int.fmod_nonneg_of_pos _ h
theorem tk_lt {ns : List Int} {n : Int} (h : 0 < n) : tk ns n < n := by
  unfold tk
  split
  · exact h
  · exact Int.fmod_lt_of_pos _ h
@[simp] theorem v_take (ns : List Int) (n : Int) (hn : n ≠ 0) : m__law_take [.ol (is ns), .sh (.int n)] = some (.sh (.int (tk ns n)), [.ol (is ns.dropLast), .sh (.int n)]) := by
  rcases List.eq_nil_or_concat ns with rfl | ⟨r, z, rfl⟩
  · exact fn_io (ρ' := [.ol [], .sh (.int n)]) (by simp [s__law_take, tk]) rfl
  · have h0 : ((r.length : Int) + 1 == 0) = false := by
      rw [beq_eq_false_iff_ne]
      omega
    refine (fn_io (ρ' := [.ol (is r), .sh (.int n)]) (c := .sh (.int (z.fmod n))) ?_ rfl).trans ?_
    · simp [s__law_take, lPop, hn, h0]
    · simp [tk]; rfl
@[simp] theorem okD_is (ns : List Int) : PyData.canLayAll0 (is ns) = true := by
  induction ns with
  | nil => rfl
  | cons n r ih => simp [ih]
@[simp] theorem dpA_is (ns : List Int) : PyData.depthAll (is ns) = 0 := by
  induction ns with
  | nil => rfl
  | cons n r ih => simp [ih]
/-! the list of the draws -/
@[simp] theorem atI_is {ns : List Int} {i : Int} (h0 : 0 ≤ i) (h1 : i < ns.length) : atI (is ns) i = some (.int (ns[i.toNat]'(by omega))) := by
  refine atI_in h0 ?_
  rw [is_get, List.getElem?_eq_getElem (by omega)]
  rfl
theorem v_draws (ns : List Int) (many : Int) (hl : ns.length ≤ 63) (h0 : 0 ≤ many) (h1 : many ≤ 1000) : ∃ ds : List Int, m__law_draws [.sh (.list (is ns)), .sh (.int many)] = some (.ol (is ds), []) := by
  have e1 : eComp none [8] (iSq (eVar 0)) (gNm 8) cYes (eCB cInt (aCons (eVar 8) aNil)) [.sh (.list (is ns)), .sh (.int many), .dead, .dead, .dead, .dead, .dead, .dead, .dead] = some (.ol (is ns), [.sh (.list (is ns)), .sh (.int many), .dead, .dead, .dead, .dead, .dead, .dead, .dead]) := by
    refine (ev_compA PyData.int PyData.int ns (ρi := [.sh (.list (is ns)), .sh (.int many), .dead, .dead, .dead, .dead, .dead, .dead, .dead]) rfl rfl (by simp [sizeLine]; omega) fun y _ => by refine ⟨_, _, rfl, rfl, ?_⟩; rfl).trans rfl
  obtain ⟨cells, hc0, hc1, e2⟩ : ∃ cells : List Int, cells ≠ [] ∧ cells.length ≤ 64 ∧ (sIf (eTst (eBin (fun x y => (bEq x y).map .bool) (eLenOwn 2) (eC (.int 0)))) (sExpr (eMeth 2 lAppend (aCons (eC (.int 0)) (aNil)))) (sNx)) [.sh (.list (is ns)), .sh (.int many), .ol (is ns), .dead, .dead, .dead, .dead, .dead, .dead] = some (.nx [.sh (.list (is ns)), .sh (.int many), .ol (is cells), .dead, .dead, .dead, .dead, .dead, .dead]) := by
    cases ns with
    | nil => exact ⟨[0], by simp, by simp, by simp [lAppend, sizeLine]⟩
    | cons n r =>
      have h0 : ((r.length : Int) + 1 == 0) = false := by
        rw [beq_eq_false_iff_ne]
        omega
      exact ⟨n :: r, by simp, by simp at hl ⊢; omega, by simp [h0]⟩
  -- the turns
  have hn0 : cells.length ≠ 0 := fun z => hc0 (List.eq_nil_of_length_eq_zero z)
  have hn : (0 : Int) < cells.length := by omega
  have hp : (10 : Int) ^ 18 = 1000000000000000000 := by decide
  have hp2 : (Builtin.Int.intBits 10 : Int) * 18 ≤ 134217728 := by decide
  have lp := loop_invN (xs0 := (List.range many.toNat).map (fun k : Nat => PyData.int (k : Int))) (ks := [5, 6, 7]) (b := fun x ρ => (gNm 5 x ρ).bind b__law_draws_1) (fun k : Nat => PyData.int (k : Int)) (fun r ρ => ∃ rest ds : List Int, rest.length = cells.length ∧ ds.length + r.length ≤ 1000 ∧ ρ = [.sh (.list (is ns)), .sh (.int many), .sh (.list (is cells)), .ol (is rest), .ol (is ds), .dead, .dead, .dead, .dead]) (fun k r ρ h => by
    obtain ⟨rest, ds, hr, hd, rfl⟩ := h
    rw [List.length_cons] at hd
    have hat0 : 0 ≤ (k : Int).fmod cells.length := Int.fmod_nonneg_of_pos _ hn
    have hat1 : (k : Int).fmod cells.length < cells.length := Int.fmod_lt_of_pos _ hn
    generalize hat : (k : Int).fmod cells.length = at_ at hat0 hat1
    have hat2 : at_ < rest.length := by omega
    have hdl : ds.length < 16777216 := by omega
    have hml : ∀ a : Int, mulOk a 48271 = true := fun a => by simp [mulOk]
    have hml2 : mulOk (k : Int) 69621 = true := by simp [mulOk]
    have hmm : ∀ a : Int, mulOk (a.fmod 2147483647) (a.fmod 2147483647) = true := fun a => mulOk_l (Nat.lt_of_lt_of_le (fmod_abs (by decide)) (by decide))
    have hm3 : ∀ a : Int, mulOk 3 a = true := fun a => mulOk_l (by decide)
    by_cases hb1 : (1000000000000000000 : Int) ≤ cells[at_.toNat]'(by omega)
    · by_cases hb2 : (0 : Int) < rest[at_.toNat]'(by omega)
      · have hq : Builtin.divisionGoesByPylong (rest[at_.toNat]'(by omega)) 1000 = false := PyProof.noPylong_small (by decide)
        simp [b__law_draws_1, hn0, hat, hat0, hat1, hat2, dPow, hp2, hb1, hb2, lAppend, sizeLine, hdl, hq, ixN_in]
        refine ⟨rest.set at_.toNat ((rest[at_.toNat]'(by omega)).fdiv 1000), by simp [hr], ds ++ [(rest[at_.toNat]'(by omega)).fmod 1000], by simp; omega, ?_, ?_⟩
        · rw [is_set]
        · simp
      · simp [b__law_draws_1, hn0, hat, hat0, hat1, hat2, dPow, hp2, hb1, hb2, lAppend, sizeLine, hdl, hml, hml2, hmm, hm3]
        exact ⟨rest, hr, ds ++ [_], by simp; omega, rfl, is_snoc⟩
    · simp [b__law_draws_1, hn0, hat, hat0, hat1, hat2, dPow, hp2, hb1, lAppend, sizeLine, hdl, hml, hml2, hmm, hm3]
      exact ⟨rest, hr, ds ++ [_], by simp; omega, rfl, is_snoc⟩)
  have e3 : (sSetN 4 (eLst aNil)) [.sh (.list (is ns)), .sh (.int many), .sh (.list (is cells)), .ol (is cells), .dead, .dead, .dead, .dead, .dead] = some (.nx [.sh (.list (is ns)), .sh (.int many), .sh (.list (is cells)), .ol (is cells), .ol (is []), .dead, .dead, .dead, .dead]) := by simp [sizeLine]
  obtain ⟨ρ', e4, rest, ds, _, _, rfl⟩ := lp (List.range many.toNat) [.sh (.list (is ns)), .sh (.int many), .sh (.list (is cells)), .ol (is cells), .ol (is []), .dead, .dead, .dead, .dead] ⟨cells, [], rfl, by simp; omega, rfl⟩
  have e5 : l__law_draws_1 [.sh (.list (is ns)), .sh (.int many), .sh (.list (is cells)), .ol (is cells), .ol (is []), .dead, .dead, .dead, .dead] = some (.nx [.sh (.list (is ns)), .sh (.int many), .sh (.list (is cells)), .ol (is rest), .ol (is ds), .dead, .dead, .dead, .dead]) := by
    exact for_nx (ev_r1 rfl h0 (by omega)) e4
  refine ⟨ds.reverse, fn_ret (ρ' := [.sh (.list (is ns)), .sh (.int many), .sh (.list (is cells)), .ol (is rest), .dead, .dead, .dead, .dead, .dead]) ?_⟩
  have e6 : s__law_draws [.sh (.list (is ns)), .sh (.int many), .dead, .dead, .dead, .dead, .dead, .dead, .dead] = some (.rt (.ol (is ds.reverse)) [.sh (.list (is ns)), .sh (.int many), .sh (.list (is cells)), .ol (is rest), .dead, .dead, .dead, .dead, .dead]) := by
    unfold s__law_draws
    rw [seq_nx (setN_nx e1)]
    refine (seq_nx e2).trans ?_
    refine (seq_nx (ρ1 := [.sh (.list (is ns)), .sh (.int many), .sh (.list (is cells)), .ol (is cells), .dead, .dead, .dead, .dead, .dead]) (by simp [cList])).trans ?_
    rw [seq_nx e3, seq_nx e5]
    simp [lReverse, sRetOwn, is_rev]
  exact e6
theorem v_cell (ns ds : List Int) (hn : ns.length ≤ 63) : ∃ (z : Int) (ds2 : List Int), (z = 0 ∨ z ∈ ns) ∧ ds2.length ≤ ds.length ∧ m__law_cell [.sh (.list (is ns)), .ol (is ds)] = some (.sh (.int z), [.sh (.list (is ns)), .ol (is ds2)]) := by
  cases ns with
  | nil => exact ⟨0, ds, .inl rfl, Nat.le_refl _, fn_io (ρ' := [.sh (.list []), .ol (is ds)]) (by simp [s__law_cell]) rfl⟩
  | cons n r =>
    have h0 : ((r.length : Int) + 1 == 0) = false := by
      rw [beq_eq_false_iff_ne]
      omega
    have h0' : ((r.length : Int) + 1) ≠ 0 := by omega
    have hp : (0 : Int) < ((n :: r).length : Int) := by rw [List.length_cons]; omega
    have h1 := tk_nn (ns := ds) hp
    have h2 := tk_lt (ns := ds) hp
    have e := atI_is h1 h2
    generalize hz : (n :: r)[(tk ds (n :: r).length).toNat]'(by omega) = z at e
    have hm : z ∈ n :: r := by rw [← hz]; exact List.getElem_mem _
    clear hz
    have e : atI (PyData.int n :: is r) (tk ds ((r.length : Int) + 1)) = some (.int z) := e
    refine ⟨z, ds.dropLast, .inr hm, by simp, fn_io (ρ' := [.sh (.list (is (n :: r))), .ol (is ds.dropLast)]) ?_ rfl⟩
    simp [s__law_cell, h0, h0', e]
/-! ### the laws' comparison -/
mutual
def sok : Nat → D → Bool
  | _, .none => true
  | _, .bool _ => true
  | _, .int _ => true
  | _, .str x => PyData.strOk x
  | 0, .tuple _ => false
  | n + 1, .tuple ds => soks n ds && decide (ds.length ≤ 1000000)
  | _, _ => false
def soks : Nat → List D → Bool
  | _, [] => true
  | n, d :: ds => sok n d && soks n ds
end
theorem soks_get {n : Nat} : ∀ {ds : List D} {i : Nat} {d : D}, soks n ds = true → ds[i]? = some d → sok n d = true
  | [], i, d, _, e => by simp at e
  | u :: r, 0, d, h, e => by
    simp at e; subst e
    rw [soks, Bool.and_eq_true] at h
    exact h.1
  | u :: r, i + 1, d, h, e => by
    rw [soks, Bool.and_eq_true] at h
    exact soks_get (i := i) h.2 (by simpa using e)
theorem v_same : ∀ (n : Nat) (d : D), sok n d = true → m__law_same (n + 1) [.sh d, .sh d] = some (.sh (.bool true), []) := by
  intro n
  induction n with
  | zero =>
    intro d h
    cases d with
    | none => exact fn_ret (ρ' := [.sh .none, .sh .none, .dead]) (by simp [s__law_same])
    | bool b => exact fn_ret (ρ' := [.sh (.bool b), .sh (.bool b), .dead]) (by simp [s__law_same])
    | int b => exact fn_ret (ρ' := [.sh (.int b), .sh (.int b), .dead]) (by simp [s__law_same])
    | str b => exact fn_ret (ρ' := [.sh (.str b), .sh (.str b), .dead]) (by simp [s__law_same, ev_eqR (d := .str b) (by simpa [ev_okD, sok] using h)])
    | _ => simp [sok] at h
  | succ n ih =>
    intro d h
    cases d with
    | none => exact fn_ret (ρ' := [.sh .none, .sh .none, .dead]) (by simp [s__law_same])
    | bool b => exact fn_ret (ρ' := [.sh (.bool b), .sh (.bool b), .dead]) (by simp [s__law_same])
    | int b => exact fn_ret (ρ' := [.sh (.int b), .sh (.int b), .dead]) (by simp [s__law_same])
    | str b => exact fn_ret (ρ' := [.sh (.str b), .sh (.str b), .dead]) (by simp [s__law_same, ev_eqR (d := .str b) (by simpa [ev_okD, sok] using h)])
    | tuple ds =>
      rw [sok, Bool.and_eq_true, decide_eq_true_eq] at h
      have hr := ev_r1 (a := aCons (eCB cLen (aCons (eVar 1) aNil)) aNil) (ρ := [.sh (.tuple ds), .sh (.tuple ds), .dead]) (ρ1 := [.sh (.tuple ds), .sh (.tuple ds), .dead]) (n := ds.length) rfl (by omega) (by omega)
      have lp := loop_same (fun k : Nat => PyData.int (k : Int)) (xs0 := (List.range ((ds.length : Int)).toNat).map (fun k : Nat => PyData.int (k : Int))) (ks := [2]) (b := fun x ρ => (gNm 2 x ρ).bind (b__law_same_1 (m__law_same (n + 1)))) (ρ0 := [.sh (.tuple ds), .sh (.tuple ds), .dead]) (List.range ((ds.length : Int)).toNat) (fun k hk => by
        have hk : k < ds.length := by simpa using hk
        have e1 : atI ds (k : Int) = some ds[k] := atI_nat (List.getElem?_eq_getElem hk)
        have e2 := ih ds[k] (soks_get h.1 (List.getElem?_eq_getElem hk))
        refine ⟨[.sh (.tuple ds), .sh (.tuple ds), .sh (.int k)], .inl ?_, rfl⟩
        simp [b__law_same_1, e1, e2]) (ρ := [.sh (.tuple ds), .sh (.tuple ds), .dead]) rfl
      have el : l__law_same_1 (m__law_same (n + 1)) [.sh (.tuple ds), .sh (.tuple ds), .dead] = some (.nx [.sh (.tuple ds), .sh (.tuple ds), .dead]) := for_nx hr lp
      have hne : eOr (eNot (eTru (eIsi "tuple" (eVar 0)))) (eTst (eBin (fun x y => (bNe x y).map .bool) (eCB cLen (aCons (eVar 0) (aNil))) (eCB cLen (aCons (eVar 1) (aNil))))) [.sh (.tuple ds), .sh (.tuple ds), .dead] = some (false, [.sh (.tuple ds), .sh (.tuple ds), .dead]) := by simp
      refine fn_ret (ρ' := [.sh (.tuple ds), .sh (.tuple ds), .dead]) ?_
      show s__law_same (m__law_same (n + 1)) [.sh (.tuple ds), .sh (.tuple ds), .dead] = _
      unfold s__law_same
      refine (seq_nx (if_f (ρ1 := [.sh (.tuple ds), .sh (.tuple ds), .dead]) (by simp))).trans ?_
      refine (seq_nx (if_f (ρ1 := [.sh (.tuple ds), .sh (.tuple ds), .dead]) (by simp))).trans ?_
      refine (seq_nx (if_f (ρ1 := [.sh (.tuple ds), .sh (.tuple ds), .dead]) (by simp))).trans ?_
      refine (seq_nx (if_f (ρ1 := [.sh (.tuple ds), .sh (.tuple ds), .dead]) (by simp))).trans ?_
      refine (seq_nx (if_f (ρ1 := [.sh (.tuple ds), .sh (.tuple ds), .dead]) hne)).trans ?_
      refine (seq_nx el).trans ?_
      rfl
    | _ => simp [sok] at h

/-! ## fractions -/
theorem gcd_step (a b : Int) (hb : 0 < b) : Int.gcd b (a.fmod b) = Int.gcd a b := by
  rw [Int.fmod_eq_emod_of_nonneg a (by omega), Int.gcd_comm a b, ← Int.gcd_add_mul_left_right b (a % b) (a / b), Int.emod_add_mul_ediv]
theorem w_divisor : ∀ (n : Nat) (a b : Int), b.toNat ≤ n → 0 ≤ a → 0 ≤ b → l_divisor_1 [.sh (.int a), .sh (.int b)] = some (.nx [.sh (.int (Int.gcd a b)), .sh (.int 0)]) := by
  intro n
  induction n with
  | zero =>
    intro a b hn ha hb
    have : b = 0 := by omega
    subst this
    refine (sWhile_done (p := (false, [.sh (.int a), .sh (.int 0)])) ?_ rfl).trans ?_
    · simp
    · simp; omega
  | succ n ih =>
    intro a b hn ha hb
    by_cases h0 : b = 0
    · subst h0
      refine (sWhile_done (p := (false, [.sh (.int a), .sh (.int 0)])) ?_ rfl).trans ?_
      · simp
      · simp; omega
    · have hb' : 0 < b := by omega
      have h1 := Int.fmod_lt_of_pos a hb'
      have h2 := Int.fmod_nonneg_of_pos a hb'
      refine sWhile_step (p := (true, [.sh (.int a), .sh (.int b)])) (ρ1 := [.sh (.int b), .sh (.int (a.fmod b))]) ?_ rfl ?_ ?_
      · simp [hb']
      · simp [b_divisor_1, h0]
      · have := ih b (a.fmod b) (by omega) (by omega) h2
        rw [l_divisor_1] at this
        rw [this, gcd_step a b hb']
theorem v_divisor (a b : Int) : m_divisor [.sh (.int a), .sh (.int b)] = some (.sh (.int (Int.gcd a b)), []) := by
  have := w_divisor b.natAbs (if a < 0 then -a else a) (if b < 0 then -b else b) (by split <;> omega) (by split <;> omega) (by split <;> omega)
  have e : Int.gcd (if a < 0 then -a else a) (if b < 0 then -b else b) = Int.gcd a b := by
    split <;> split <;> simp
  rw [e] at this
  refine fn_ret (ρ' := [.sh (.int (Int.gcd a b)), .sh (.int 0)]) ?_
  simp [s_divisor, this]
theorem gcd_bd {a b : Int} {n : Nat} (h : b ≠ 0) (k : Bd n b) : Bd n (Int.gcd a b : Nat) := k.le (gcd_le_right' h)
theorem gcd_ne {a b : Int} (h : b ≠ 0) : ((Int.gcd a b : Nat) : Int) ≠ 0 := by
  have := Int.gcd_pos_iff (a := a) (b := b)
  omega
theorem v_fraction {a b : Int} {n : Nat} (h : 0 < b) (hb : Bd n b) (hn : n ≤ 8999) : m_fraction [.sh (.int a), .sh (.int b)] = some (.sh (Frq (Rat.divInt a b)), []) := by
  have hg := gcd_bd (a := a) (by omega) hb
  have h' := gcd_ne (a := a) (b := b) (by omega)
  have p1 := noPy (a := a) hg hn
  have p2 := noPy (a := b) hg hn
  obtain ⟨e1, e2⟩ := fr_pos (a := a) h
  have ed := v_divisor a b
  generalize (Int.gcd a b : Nat) = g at *
  have h'' : g ≠ 0 := by omega
  refine fn_ret (ρ' := [.sh (.int a), .sh (.int b), .sh (.int g)]) ?_
  simp [s_fraction, ed, h'', p1, p2, sizeLine, Frq, ← e1, ← e2]
/-! the laws' own way to the greatest divisor -/
theorem w_shared (x y : D) : ∀ (n : Nat) (ks : List Nat) (a b : Int), 0 ≤ a → 0 ≤ b → Bd n b → 2 * n + 1 ≤ ks.length → ∀ xs0 c d,
    loopF none xs0 [4, 5] (fun x ρ => (gNm 4 x ρ).bind b__law_shared_1) (ks.map (fun k : Nat => PyData.int (k : Int))) [.sh x, .sh y, .sh (.int a), .sh (.int b), c, d] = some (.nx [.sh x, .sh y, .sh (.int (Int.gcd a b)), .sh (.int 0), .dead, .dead]) := by
  have stop : ∀ (ks : List Nat) (a : Int), 0 ≤ a → 1 ≤ ks.length → ∀ xs0 c d, loopF none xs0 [4, 5] (fun x ρ => (gNm 4 x ρ).bind b__law_shared_1) (ks.map (fun k : Nat => PyData.int (k : Int))) [.sh x, .sh y, .sh (.int a), .sh (.int 0), c, d] = some (.nx [.sh x, .sh y, .sh (.int (Int.gcd a 0)), .sh (.int 0), .dead, .dead]) := by
    intro ks a ha hk xs0 c d
    cases ks with
    | nil => simp at hk
    | cons k r =>
      rw [List.map_cons, loop_brk (ρ' := [.sh x, .sh y, .sh (.int a), .sh (.int 0), .sh (.int k), .dead]) rfl (by simp [b__law_shared_1])]
      simp
      omega
  have one : ∀ (k : Nat) (a b : Int), 0 < b → ∀ c d, (gNm 4 (PyData.int (k : Int)) (killL [4, 5] [.sh x, .sh y, .sh (.int a), .sh (.int b), c, d])).bind b__law_shared_1 = some (.nx [.sh x, .sh y, .sh (.int b), .sh (.int (a.fmod b)), .sh (.int k), .sh (.int (a.fmod b))]) := by
    intro k a b hb c d
    have h0 : (b == 0) = false := by rw [beq_eq_false_iff_ne]; omega
    have h1 : b ≠ 0 := by omega
    simp [b__law_shared_1, h0, h1]
  intro n
  induction n with
  | zero =>
    intro ks a b ha hb hB hk xs0 c d
    have : b = 0 := by unfold Bd at hB; omega
    subst this
    exact stop ks a ha (by omega) xs0 c d
  | succ n ih =>
    intro ks a b ha hb hB hk xs0 c d
    by_cases h0 : b = 0
    · subst h0
      exact stop ks a ha (by omega) xs0 c d
    · have hb' : 0 < b := by omega
      have h1 := Int.fmod_lt_of_pos a hb'
      have h2 := Int.fmod_nonneg_of_pos a hb'
      match ks, hk with
      | k :: k2 :: r, hk =>
        rw [List.map_cons, loop_cons rfl (one k a b hb' c d)]
        by_cases h3 : a.fmod b = 0
        · rw [h3, stop (k2 :: r) b hb (by simp)]
          rw [← gcd_step a b hb', h3]
        · have h3' : 0 < a.fmod b := by omega
          have h4 := Int.fmod_lt_of_pos b h3'
          have h5 := Int.fmod_nonneg_of_pos b h3'
          rw [List.map_cons, loop_cons rfl (one k2 b _ h3' _ _)]
          have hB2 : Bd n (b.fmod (a.fmod b)) := by
            unfold Bd at hB ⊢
            rw [Nat.pow_succ] at hB
            have e := Int.fmod_add_mul_fdiv b (a.fmod b)
            have q : 1 ≤ b.fdiv (a.fmod b) := by
              have := Int.le_ediv_of_mul_le h3' (show 1 * a.fmod b ≤ b by omega)
              rw [Int.fdiv_eq_ediv_of_nonneg _ (by omega)]
              exact this
            have : a.fmod b * 1 ≤ a.fmod b * b.fdiv (a.fmod b) := Int.mul_le_mul_of_nonneg_left q (by omega)
            omega
          rw [ih r _ _ (by omega) h5 hB2 (by simp at hk ⊢; omega)]
          rw [gcd_step b _ h3', gcd_step a b hb']
theorem v_shared {a b : Int} {n : Nat} (hb : Bd n b) (hn : n ≤ 1999) : m__law_shared [.sh (.int a), .sh (.int b)] = some (.sh (.int (Int.gcd a b)), []) := by
  have e : Int.gcd (if a < 0 then -a else a) (if b < 0 then -b else b) = Int.gcd a b := by
    split <;> split <;> simp
  have hb2 : Bd n (if b < 0 then -b else b) := by split; exact hb.neg; exact hb
  have := w_shared (.int a) (.int b) n (List.range 4000) (if a < 0 then -a else a) (if b < 0 then -b else b) (by split <;> omega) (by split <;> omega) hb2 (by rw [List.length_range]; omega) ((List.range 4000).map (fun k : Nat => PyData.int (k : Int))) .dead .dead
  rw [e] at this
  have el := for_nx (it := iR1 (aCons (eC (.int 4000)) aNil)) (tg := gNm 4) (s := b__law_shared_1) (ks := [4, 5]) (lk := none) (ρ := [.sh (.int a), .sh (.int b), .sh (.int (if a < 0 then -a else a)), .sh (.int (if b < 0 then -b else b)), .dead, .dead]) (ev_r1 rfl (by decide) (by decide)) this
  refine fn_ret (ρ' := [.sh (.int a), .sh (.int b), .sh (.int (Int.gcd a b)), .sh (.int 0), .dead, .dead]) ?_
  show s__law_shared [.sh (.int a), .sh (.int b), .dead, .dead, .dead, .dead] = _
  unfold s__law_shared
  refine (seq_nx (ρ1 := [.sh (.int a), .sh (.int b), .sh (.int (if a < 0 then -a else a)), .dead, .dead, .dead]) (by simp)).trans ?_
  refine (seq_nx (ρ1 := [.sh (.int a), .sh (.int b), .sh (.int (if a < 0 then -a else a)), .sh (.int (if b < 0 then -b else b)), .dead, .dead]) (by simp)).trans ?_
  refine (seq_nx (show l__law_shared_1 _ = _ from el)).trans ?_
  rfl
theorem v_frac {a b : Int} {n : Nat} (h : b ≠ 0) (hb : Bd n b) (hn : n ≤ 1999) : m__law_frac [.sh (.int a), .sh (.int b)] = some (.sh (Frq (Rat.divInt a b)), []) := by
  have hg := gcd_bd (a := a) h hb
  have h' := gcd_ne (a := a) h
  have p1 := noPy (a := a) hg (by omega)
  have p2 := noPy (a := b) hg (by omega)
  have p3 := noPy (a := a) hg.neg (by omega)
  have p4 := noPy (a := b) hg.neg (by omega)
  have ed := v_shared (a := a) hb hn
  by_cases hs : b < 0
  · obtain ⟨e1, e2⟩ := fr_neg (a := a) hs
    generalize (Int.gcd a b : Nat) = g at *
    have h'' : g ≠ 0 := by omega
    refine fn_ret (ρ' := [.sh (.int a), .sh (.int b), .sh (.int (-g))]) ?_
    simp [s__law_frac, ed, h'', p3, p4, sizeLine, Frq, ← e1, ← e2, hs]
  · obtain ⟨e1, e2⟩ := fr_pos (a := a) (b := b) (by omega)
    generalize (Int.gcd a b : Nat) = g at *
    have h'' : g ≠ 0 := by omega
    refine fn_ret (ρ' := [.sh (.int a), .sh (.int b), .sh (.int g)]) ?_
    simp [s__law_frac, ed, h'', p1, p2, sizeLine, Frq, ← e1, ← e2, hs]
theorem frq_int (z : Int) : Frq (z : Rat) = .tuple [.int z, .int 1] := rfl
theorem bq_int {z : Int} {n : Nat} (h : Bd n z) (h1 : 1 ≤ n) : BdQ n (z : Rat) := ⟨h, by show (1 : Nat) < 2 ^ n; exact Nat.one_lt_two_pow (by omega)⟩
theorem fdiv_exact {a s : Int} (h : s ∣ a) (h0 : s ≠ 0) : a.fdiv s * s = a := by
  have := Int.fmod_add_mul_fdiv a s
  rw [Int.fmod_eq_zero_of_dvd h] at this
  rw [Int.mul_comm]
  omega
theorem fdiv_exact_le {a s : Int} (h : s ∣ a) (h0 : s ≠ 0) : (a.fdiv s).natAbs ≤ a.natAbs := by
  have e := fdiv_exact h h0
  have e2 : (a.fdiv s).natAbs * s.natAbs = a.natAbs := by rw [← Int.natAbs_mul, e]
  have h1 : 1 ≤ s.natAbs := by omega
  calc (a.fdiv s).natAbs = (a.fdiv s).natAbs * 1 := (Nat.mul_one _).symm
    _ ≤ (a.fdiv s).natAbs * s.natAbs := Nat.mul_le_mul_left _ h1
    _ = a.natAbs := e2
theorem den_ne (q : Rat) : ((q.den : Int) : Rat) ≠ 0 := by
  have := den_pos' q
  intro e
  have : (q.den : Int) = 0 := by exact_mod_cast e
  omega
theorem num_eq (q : Rat) : (q.num : Rat) = q * (q.den : Rat) := by
  have h := Rat.num_divInt_den q
  rw [Rat.divInt_eq_div] at h
  have := den_ne q
  have e : ((q.den : Int) : Rat) = (q.den : Rat) := by push_cast; rfl
  rw [e] at h this
  grind
theorem nat_le_dvd {a b : Int} (h : a ∣ b) (h0 : b ≠ 0) : a.natAbs ≤ b.natAbs := Nat.le_of_dvd (by omega) (Int.natAbs_dvd_natAbs.mpr h)
theorem di_rat (p q : Int) : Rat.divInt p q = (p : Rat) / q := Rat.divInt_eq_div p q

/-! ## the ways to reckon -/
theorem br_one : BdR 1 1 1 := ⟨by show (1 : Nat) < 2 ^ 1; decide, by show (1 : Nat) < 2 ^ 1; decide⟩
theorem br_two : BdR 2 1 2 := ⟨by show (2 : Nat) < 2 ^ 2; decide, by show (1 : Nat) < 2 ^ 1; decide⟩
theorem br_zero : BdR 1 1 0 := ⟨by show (0 : Nat) < 2 ^ 1; decide, by show (1 : Nat) < 2 ^ 1; decide⟩
theorem br_int {z : Int} {n : Nat} (h : Bd n z) : BdR n 1 (z : Rat) := ⟨h, by show (1 : Nat) < 2 ^ 1; decide⟩
section
variable {x y : Rat} {n m d e : Nat}
theorem v_times (hx : BdR n d x) (hy : BdR m e y) (h : n + m ≤ 100000000) (h2 : d + e ≤ 8900) : m_times [.sh (Frq x), .sh (Frq y)] = some (.sh (Frq (x * y)), []) := by
  have ef := v_fraction (a := x.num * y.num) (Int.mul_pos (den_pos' x) (den_pos' y)) (hx.den.mul hy.den) (by omega)
  refine fn_ret (ρ' := [.sh (Frq x), .sh (Frq y)]) ?_
  rw [mul_di]
  simp [s_times, Frq, hx.num.mulOk hy.num (by omega), hx.den.mulOk hy.den (by omega)] at ef ⊢
  (first | done | simp [ef])
theorem v_plus (hx : BdR n d x) (hy : BdR m e y) (h : n + e ≤ 100000000) (h3 : m + d ≤ 100000000) (h2 : d + e ≤ 8900) : m_plus [.sh (Frq x), .sh (Frq y)] = some (.sh (Frq (x + y)), []) := by
  have ef := v_fraction (a := x.num * y.den + y.num * x.den) (Int.mul_pos (den_pos' x) (den_pos' y)) (hx.den.mul hy.den) (by omega)
  refine fn_ret (ρ' := [.sh (Frq x), .sh (Frq y)]) ?_
  rw [add_di]
  simp [s_plus, Frq, hx.num.mulOk hy.den (by omega), hy.num.mulOk hx.den (by omega), hx.den.mulOk hy.den (by omega)] at ef ⊢
  (first | done | simp [ef])
theorem v_minus (hx : BdR n d x) (hy : BdR m e y) (h : n + e ≤ 100000000) (h3 : m + d ≤ 100000000) (h2 : d + e ≤ 8900) : m_minus [.sh (Frq x), .sh (Frq y)] = some (.sh (Frq (x - y)), []) := by
  have ef := v_fraction (a := x.num * y.den - y.num * x.den) (Int.mul_pos (den_pos' x) (den_pos' y)) (hx.den.mul hy.den) (by omega)
  refine fn_ret (ρ' := [.sh (Frq x), .sh (Frq y)]) ?_
  rw [sub_di]
  simp [s_minus, Frq, hx.num.mulOk hy.den (by omega), hy.num.mulOk hx.den (by omega), hx.den.mulOk hy.den (by omega)] at ef ⊢
  (first | done | simp [ef])
/-- divided by a pair of whole numbers that may stand out of order -/
theorem v_dividedR {p q : Int} (hx : BdR n d x) (hp : Bd m p) (hq : Bd e q) (h : n + e ≤ 100000000) (h2 : d + m ≤ 8900) (h0 : p ≠ 0) : m_divided [.sh (Frq x), .sh (.tuple [.int p, .int q])] = some (.sh (Frq (x / (p : Rat) * (q : Rat))), []) := by
  have hd := den_pos' x
  have ex : x / (p : Rat) * (q : Rat) = Rat.divInt (x.num * q) (x.den * p) := by
    rw [di_rat]
    push_cast
    rw [num_eq x]
    have a1 : (x.den : Rat) ≠ 0 := by
      have := den_ne x
      push_cast at this
      exact this
    have a2 : (p : Rat) ≠ 0 := by
      intro z
      exact h0 (by exact_mod_cast z)
    grind
  rw [ex]
  by_cases hp0 : 0 < p
  · have hp' := Int.mul_pos hd hp0
    have ef := v_fraction (a := x.num * q) hp' (hx.den.mul hp) (by omega)
    refine fn_ret (ρ' := [.sh (Frq x), .sh (.tuple [.int p, .int q]), .sh (.int (x.num * q)), .sh (.int (x.den * p))]) ?_
    simp [s_divided, Frq, hx.num.mulOk hq (by omega), hx.den.mulOk hp (by omega), hp'] at ef ⊢
    (first | done | simp [ef])
  · have hp' : x.den * p < 0 := Int.mul_neg_of_pos_of_neg hd (by omega)
    have hp2 : ¬ (0 < x.den * p) := by omega
    have ef := v_fraction (a := -(x.num * q)) (b := -(x.den * p)) (by omega) (hx.den.mul hp).neg (by omega)
    rw [Rat.neg_divInt_neg] at ef
    refine fn_ret (ρ' := [.sh (Frq x), .sh (.tuple [.int p, .int q]), .sh (.int (x.num * q)), .sh (.int (x.den * p))]) ?_
    simp [s_divided, Frq, hx.num.mulOk hq (by omega), hx.den.mulOk hp (by omega), hp2] at ef ⊢
    (first | done | simp [ef])
theorem v_lmul (hx : BdR n d x) (hy : BdR m e y) (h : n + m ≤ 100000000) (h2 : d + e ≤ 1998) : m__law_mul [.sh (Frq x), .sh (Frq y)] = some (.sh (Frq (x * y)), []) := by
  have ef := v_frac (a := x.num * y.num) (Int.ne_of_gt (Int.mul_pos (den_pos' x) (den_pos' y))) (hx.den.mul hy.den) (by omega)
  refine fn_ret (ρ' := [.sh (Frq x), .sh (Frq y)]) ?_
  rw [mul_di]
  simp [s__law_mul, Frq, hx.num.mulOk hy.num (by omega), hx.den.mulOk hy.den (by omega)] at ef ⊢
  (first | done | simp [ef])
theorem v_ladd (hx : BdR n d x) (hy : BdR m e y) (h : n + e ≤ 100000000) (h3 : m + d ≤ 100000000) (h2 : d + e ≤ 1998) : m__law_add [.sh (Frq x), .sh (Frq y)] = some (.sh (Frq (x + y)), []) := by
  have ef := v_frac (a := x.num * y.den + y.num * x.den) (Int.ne_of_gt (Int.mul_pos (den_pos' x) (den_pos' y))) (hx.den.mul hy.den) (by omega)
  refine fn_ret (ρ' := [.sh (Frq x), .sh (Frq y)]) ?_
  rw [add_di]
  simp [s__law_add, Frq, hx.num.mulOk hy.den (by omega), hy.num.mulOk hx.den (by omega), hx.den.mulOk hy.den (by omega)] at ef ⊢
  (first | done | simp [ef])
theorem v_lless (hx : BdR n d x) (hy : BdR m e y) (h : n + e ≤ 100000000) (h3 : m + d ≤ 100000000) (h2 : d + e ≤ 1998) : m__law_less [.sh (Frq x), .sh (Frq y)] = some (.sh (Frq (x - y)), []) := by
  have ef := v_frac (a := x.num * y.den - y.num * x.den) (Int.ne_of_gt (Int.mul_pos (den_pos' x) (den_pos' y))) (hx.den.mul hy.den) (by omega)
  refine fn_ret (ρ' := [.sh (Frq x), .sh (Frq y)]) ?_
  rw [sub_di]
  simp [s__law_less, Frq, hx.num.mulOk hy.den (by omega), hy.num.mulOk hx.den (by omega), hx.den.mulOk hy.den (by omega)] at ef ⊢
  (first | done | simp [ef])
end
theorem v_lmulR {x : Rat} {p q : Int} {n d m e : Nat} (hx : BdR n d x) (hp : Bd m p) (hq : Bd e q) (h0 : q ≠ 0) (h : n + m ≤ 100000000) (h2 : d + e ≤ 1998) : m__law_mul [.sh (Frq x), .sh (.tuple [.int p, .int q])] = some (.sh (Frq (x * Rat.divInt p q)), []) := by
  have hd := den_pos' x
  have ef := v_frac (a := x.num * p) (b := x.den * q) (Int.mul_ne_zero (Int.ne_of_gt hd) h0) (hx.den.mul hq) (by omega)
  have e2 : x * Rat.divInt p q = Rat.divInt (x.num * p) (x.den * q) := by
    conv => lhs; rw [Rat.eqd x, Rat.divInt_mul_divInt]
  refine fn_ret (ρ' := [.sh (Frq x), .sh (.tuple [.int p, .int q])]) ?_
  rw [e2]
  simp [s__law_mul, Frq, hx.num.mulOk hp (by omega), hx.den.mulOk hq (by omega)] at ef ⊢
  (first | done | simp [ef])
/-! ## lines in whole numbers -/
def Norm (A B C : Int) : Prop := Int.gcd (Int.gcd A B) C = 1 ∧ (0 < A ∨ A = 0 ∧ 0 < B)
theorem cop_dvd {l : Rat} {A B : Int} (h : B * l.den = l.num * A) : (l.den : Int) ∣ A := by
  have h2 : l.den ∣ l.num.natAbs * A.natAbs := by
    rw [← Int.natAbs_mul, ← h, Int.natAbs_mul, Int.natAbs_natCast]
    exact Nat.dvd_mul_left _ _
  have h3 : l.den ∣ A.natAbs := Nat.Coprime.dvd_of_dvd_mul_left l.reduced.symm h2
  exact Int.dvd_natAbs.mp (Int.natCast_dvd_natCast.mpr h3)
theorem gcd3_dvd {A B C q : Int} (a : q ∣ A) (b : q ∣ B) (c : q ∣ C) : q ∣ (Int.gcd (Int.gcd A B) C : Int) := Int.dvd_coe_gcd (Int.dvd_coe_gcd a b) c
theorem scaled {l : Rat} {A A' : Int} (h : (A' : Rat) = l * A) : A' * l.den = l.num * A := by
  have e : ((A' * (l.den : Int) : Int) : Rat) = ((l.num * A : Int) : Rat) := by
    push_cast
    rw [h, num_eq l]
    grind
  exact_mod_cast e
theorem norm_unique {A B C A' B' C' : Int} {l : Rat} (h : Norm A B C) (h' : Norm A' B' C') (ha : (A' : Rat) = l * A) (hb : (B' : Rat) = l * B) (hc : (C' : Rat) = l * C) : A' = A ∧ B' = B ∧ C' = C := by
  have sa := scaled ha
  have sb := scaled hb
  have sc := scaled hc
  have hd : (l.den : Int) ∣ 1 := by
    have := gcd3_dvd (cop_dvd sa) (cop_dvd sb) (cop_dvd sc)
    rw [h.1] at this
    exact this
  have hd1 : (l.den : Int) = 1 := by
    have h0 := den_pos' l
    have := Int.le_of_dvd (by decide) hd
    omega
  rw [hd1, Int.mul_one] at sa sb sc
  have hn : l.num ∣ 1 := by
    have := gcd3_dvd (q := l.num) ⟨A, sa⟩ ⟨B, sb⟩ ⟨C, sc⟩
    rw [h'.1] at this
    exact this
  have hn1 : l.num = 1 ∨ l.num = -1 := by
    have := Int.natAbs_dvd_natAbs.mpr hn
    have := Nat.dvd_one.mp this
    omega
  rcases hn1 with e | e
  · rw [e, Int.one_mul] at sa sb sc
    exact ⟨sa, sb, sc⟩
  · rw [e] at sa sb sc
    obtain ⟨_, s⟩ := h
    obtain ⟨_, s'⟩ := h'
    omega
def i0 (a b c : Rat) : Int := a.num * (b.den * c.den)
def i1 (a b c : Rat) : Int := b.num * (a.den * c.den)
def i2 (a b c : Rat) : Int := c.num * (a.den * b.den)
def gl (a b c : Rat) : Int := (Int.gcd (Int.gcd (i0 a b c) (i1 a b c)) (i2 a b c) : Nat)
def sl (a b c : Rat) : Int := if i0 a b c < 0 ∨ (i0 a b c = 0 ∧ i1 a b c < 0) then -gl a b c else gl a b c
def nA (a b c : Rat) : Int := (i0 a b c).fdiv (sl a b c)
def nB (a b c : Rat) : Int := (i1 a b c).fdiv (sl a b c)
def nC (a b c : Rat) : Int := (i2 a b c).fdiv (sl a b c)
theorem num_ne {a : Rat} (h : a ≠ 0) : a.num ≠ 0 := fun e => h (Rat.num_eq_zero.mp e)
theorem den_prod (a b : Rat) : (a.den : Int) * b.den ≠ 0 := Int.ne_of_gt (Int.mul_pos (den_pos' a) (den_pos' b))
section
variable {a b c : Rat} (h : a ≠ 0 ∨ b ≠ 0)
include h
theorem i01_ne : i0 a b c ≠ 0 ∨ i1 a b c ≠ 0 := by
  rcases h with h | h
  · exact .inl (Int.mul_ne_zero (num_ne h) (den_prod b c))
  · exact .inr (Int.mul_ne_zero (num_ne h) (den_prod a c))
theorem g01_ne : ((Int.gcd (i0 a b c) (i1 a b c) : Nat) : Int) ≠ 0 := by
  have := Int.gcd_pos_iff (a := i0 a b c) (b := i1 a b c)
  have := i01_ne (c := c) h
  omega
theorem gl_ne : gl a b c ≠ 0 := by
  have := Int.gcd_pos_iff (a := ((Int.gcd (i0 a b c) (i1 a b c) : Nat) : Int)) (b := i2 a b c)
  have := g01_ne (c := c) h
  unfold gl
  omega
theorem sl_ne : sl a b c ≠ 0 := by
  have := gl_ne (c := c) h
  unfold sl
  split <;> omega
end
theorem gl_dvd (a b c : Rat) : gl a b c ∣ i0 a b c ∧ gl a b c ∣ i1 a b c ∧ gl a b c ∣ i2 a b c := by
  have d1 : gl a b c ∣ ((Int.gcd (i0 a b c) (i1 a b c) : Nat) : Int) := Int.gcd_dvd_left ..
  exact ⟨Int.dvd_trans d1 (Int.gcd_dvd_left ..), Int.dvd_trans d1 (Int.gcd_dvd_right ..), Int.gcd_dvd_right ..⟩
theorem sl_dvd (a b c : Rat) : sl a b c ∣ i0 a b c ∧ sl a b c ∣ i1 a b c ∧ sl a b c ∣ i2 a b c := by
  obtain ⟨h0, h1, h2⟩ := gl_dvd a b c
  unfold sl
  split
  · exact ⟨Int.neg_dvd.mpr h0, Int.neg_dvd.mpr h1, Int.neg_dvd.mpr h2⟩
  · exact ⟨h0, h1, h2⟩
def scl (a b c : Rat) : Rat := ((a.den : Rat) * b.den * c.den) / (sl a b c : Rat)
theorem dn_ne (q : Rat) : (q.den : Rat) ≠ 0 := by
  have := den_ne q
  push_cast at this
  exact this
theorem nl_spec {a b c : Rat} (h : a ≠ 0 ∨ b ≠ 0) : scl a b c ≠ 0 ∧ (nA a b c : Rat) = scl a b c * a ∧ (nB a b c : Rat) = scl a b c * b ∧ (nC a b c : Rat) = scl a b c * c ∧ Norm (nA a b c) (nB a b c) (nC a b c) := by
  have s0 := sl_ne (c := c) h
  have sr : ((sl a b c : Int) : Rat) ≠ 0 := by
    intro z
    exact s0 (by exact_mod_cast z)
  obtain ⟨d0, d1, d2⟩ := sl_dvd a b c
  have cv : ∀ {z : Int} {q : Rat}, sl a b c ∣ z → (z : Rat) = ((a.den : Rat) * b.den * c.den) * q → ((z.fdiv (sl a b c) : Int) : Rat) = scl a b c * q := by
    intro z q hd hz
    have e := fdiv_exact hd s0
    have e2 : ((z.fdiv (sl a b c) : Int) : Rat) * (sl a b c : Rat) = ((a.den : Rat) * b.den * c.den) * q := by rw [← hz, ← Rat.intCast_mul, e]
    unfold scl
    grind
  have r0 : ((i0 a b c : Int) : Rat) = ((a.den : Rat) * b.den * c.den) * a := by unfold i0; push_cast; rw [num_eq a]; grind
  have r1 : ((i1 a b c : Int) : Rat) = ((a.den : Rat) * b.den * c.den) * b := by unfold i1; push_cast; rw [num_eq b]; grind
  have r2 : ((i2 a b c : Int) : Rat) = ((a.den : Rat) * b.den * c.den) * c := by unfold i2; push_cast; rw [num_eq c]; grind
  refine ⟨?_, cv d0 r0, cv d1 r1, cv d2 r2, ?_, ?_⟩
  · have := dn_ne a
    have := dn_ne b
    have := dn_ne c
    unfold scl
    grind
  · -- the greatest divisor is one
    have e0 := fdiv_exact d0 s0
    have e1 := fdiv_exact d1 s0
    have e2 := fdiv_exact d2 s0
    have hs : (sl a b c).natAbs = (gl a b c).natAbs := by unfold sl; split <;> simp
    have q0 : ((Int.gcd (Int.gcd (nA a b c) (nB a b c)) (nC a b c) : Nat) : Int) ∣ (Int.gcd (nA a b c) (nB a b c) : Nat) := Int.gcd_dvd_left ..
    have q1 := Int.dvd_trans q0 (Int.gcd_dvd_left ..)
    have q2 := Int.dvd_trans q0 (Int.gcd_dvd_right ..)
    have q3 : ((Int.gcd (Int.gcd (nA a b c) (nB a b c)) (nC a b c) : Nat) : Int) ∣ nC a b c := Int.gcd_dvd_right ..
    have hq : Int.gcd (Int.gcd (nA a b c) (nB a b c)) (nC a b c) = ((Int.gcd (Int.gcd (nA a b c) (nB a b c)) (nC a b c) : Nat) : Int).natAbs := by simp
    rw [hq]
    generalize ((Int.gcd (Int.gcd (nA a b c) (nB a b c)) (nC a b c) : Nat) : Int) = q at q1 q2 q3
    have k : q * sl a b c ∣ gl a b c := gcd3_dvd (by rw [← e0]; exact Int.mul_dvd_mul_right _ q1) (by rw [← e1]; exact Int.mul_dvd_mul_right _ q2) (by rw [← e2]; exact Int.mul_dvd_mul_right _ q3)
    have k2 := nat_le_dvd k (gl_ne h)
    rw [Int.natAbs_mul, hs] at k2
    have g0 : 0 < (gl a b c).natAbs := by have := gl_ne (c := c) h; omega
    have qn : q.natAbs ≠ 0 := by
      intro z
      have : q = 0 := by omega
      rw [this, Int.zero_mul] at k
      exact gl_ne h (Int.zero_dvd.mp k)
    have : q.natAbs ≤ 1 := by
      refine Nat.le_of_mul_le_mul_right (c := (gl a b c).natAbs) ?_ g0
      rw [Nat.one_mul]
      exact k2
    omega
  · have e0 : nA a b c * sl a b c = i0 a b c := fdiv_exact d0 s0
    have e1 : nB a b c * sl a b c = i1 a b c := fdiv_exact d1 s0
    have gp : 0 < gl a b c := by
      have := gl_ne (c := c) h
      have : 0 ≤ gl a b c := Int.natCast_nonneg _
      omega
    have i01 := i01_ne (c := c) h
    have pos : ∀ {u v w : Int}, u * v = w → v < 0 → w < 0 → 0 < u := fun {u v w} e hv hw => by
      rcases Int.lt_or_le 0 u with z | z
      · exact z
      · have := Int.mul_nonneg_of_nonpos_of_nonpos z (Int.le_of_lt hv)
        omega
    have pos2 : ∀ {u v w : Int}, u * v = w → 0 < v → 0 < w → 0 < u := fun {u v w} e hv hw => by
      rcases Int.lt_or_le 0 u with z | z
      · exact z
      · have := Int.mul_nonpos_of_nonpos_of_nonneg z (Int.le_of_lt hv)
        omega
    have zer : ∀ {u v w : Int}, u * v = w → v ≠ 0 → w = 0 → u = 0 := fun {u v w} e hv hw => by
      rw [hw] at e
      rcases Int.mul_eq_zero.mp e with z | z
      · exact z
      · exact absurd z hv
    by_cases hc : i0 a b c < 0 ∨ (i0 a b c = 0 ∧ i1 a b c < 0)
    · have es : sl a b c = -gl a b c := if_pos hc
      rw [es] at e0 e1
      rcases hc with hc | ⟨hc, hc2⟩
      · exact .inl (pos e0 (by omega) hc)
      · exact .inr ⟨zer e0 (by omega) hc, pos e1 (by omega) hc2⟩
    · have es : sl a b c = gl a b c := if_neg hc
      rw [es] at e0 e1
      by_cases hz : i0 a b c = 0
      · exact .inr ⟨zer e0 (by omega) hz, pos2 e1 gp (by omega)⟩
      · exact .inl (pos2 e0 gp (by omega))
/-- a line as data -/
def LnD (a b c : Rat) : D := .tuple [.int (nA a b c), .int (nB a b c), .int (nC a b c)]
theorem ln_scale {a b c a' b' c' l : Rat} (h : a ≠ 0 ∨ b ≠ 0) (hl : l ≠ 0) (ha : a' = l * a) (hb : b' = l * b) (hc : c' = l * c) : nA a' b' c' = nA a b c ∧ nB a' b' c' = nB a b c ∧ nC a' b' c' = nC a b c := by
  obtain ⟨s0, sa, sb, sc, sn⟩ := nl_spec (c := c) h
  have h' : a' ≠ 0 ∨ b' ≠ 0 := by
    rcases h with h | h
    · exact .inl (by grind)
    · exact .inr (by grind)
  obtain ⟨t0, ta, tb, tc, tn⟩ := nl_spec (c := c') h'
  refine norm_unique (l := scl a' b' c' * l / scl a b c) sn tn ?_ ?_ ?_
  · rw [ta, sa, ha]; grind
  · rw [tb, sb, hb]; grind
  · rw [tc, sc, hc]; grind
/-- a line of whole numbers in its own form stays -/
theorem ln_self {A B C : Int} (h : Norm A B C) : nA A B C = A ∧ nB A B C = B ∧ nC A B C = C := by
  have h0 : (A : Rat) ≠ 0 ∨ (B : Rat) ≠ 0 := by
    rcases h.2 with z | ⟨_, z⟩
    · left; intro e; have : A = 0 := by exact_mod_cast e
      omega
    · right; intro e; have : B = 0 := by exact_mod_cast e
      omega
  obtain ⟨t0, ta, tb, tc, tn⟩ := nl_spec (c := (C : Rat)) h0
  exact norm_unique h tn ta tb tc
/-! the two ways to bring a line to whole numbers -/
theorem bd_or {n : Nat} {x y g : Int} (h : x ≠ 0 ∨ y ≠ 0) (hx : Bd n x) (hy : Bd n y) (dx : g ∣ x) (dy : g ∣ y) : Bd n g := by
  rcases h with h | h
  · exact hx.le (nat_le_dvd dx h)
  · exact hy.le (nat_le_dvd dy h)
section
variable {a b c : Rat} {n1 d1 n2 d2 n3 d3 N : Nat}
theorem v_lline (h : a ≠ 0 ∨ b ≠ 0) (ha : BdR n1 d1 a) (hb : BdR n2 d2 b) (hc : BdR n3 d3 c) (k0 : n1 + d2 + d3 ≤ N) (k1 : n2 + d1 + d3 ≤ N) (k2 : n3 + d1 + d2 ≤ N) (k3 : d1 + d2 + d3 ≤ N) (kN : N ≤ 1999) :
    m__law_line [.sh (Frq a), .sh (Frq b), .sh (Frq c)] = some (.sh (LnD a b c), []) := by
  have pa := den_pos' a
  have pb := den_pos' b
  have pc := den_pos' c
  generalize hW : (a.den : Int) * b.den * c.den = W
  have hW0 : W ≠ 0 := by rw [← hW]; exact Int.ne_of_gt (Int.mul_pos (Int.mul_pos pa pb) pc)
  have dA : W.fdiv a.den = b.den * c.den := by rw [← hW, Int.mul_assoc]; exact Int.mul_fdiv_cancel_left _ (Int.ne_of_gt pa)
  have dB : W.fdiv b.den = a.den * c.den := by rw [← hW, Int.mul_comm (a.den : Int), Int.mul_assoc]; exact Int.mul_fdiv_cancel_left _ (Int.ne_of_gt pb)
  have dC : W.fdiv c.den = a.den * b.den := by rw [← hW, Int.mul_comm _ (c.den : Int)]; exact Int.mul_fdiv_cancel_left _ (Int.ne_of_gt pc)
  have b1 : Bd N (i0 a b c) := (ha.num.mul (hb.den.mul hc.den)).mono (by omega)
  have b2 : Bd N (i1 a b c) := (hb.num.mul (ha.den.mul hc.den)).mono (by omega)
  have b3 : Bd N (i2 a b c) := (hc.num.mul (ha.den.mul hb.den)).mono (by omega)
  have m1 : mulOk a.num (b.den * c.den) = true := ha.num.mulOk (hb.den.mul hc.den) (by omega)
  have m2 : mulOk b.num (a.den * c.den) = true := hb.num.mulOk (ha.den.mul hc.den) (by omega)
  have m3 : mulOk c.num (a.den * b.den) = true := hc.num.mulOk (ha.den.mul hb.den) (by omega)
  have m4 : mulOk (a.den : Int) b.den = true := ha.den.mulOk hb.den (by omega)
  have m5 : mulOk ((a.den : Int) * b.den) c.den = true := (ha.den.mul hb.den).mulOk hc.den (by omega)
  have e4 : eComp none [6] (iSq (eFrz (eLst (aCons (eVar 0) (aCons (eVar 1) (aCons (eVar 2) (aNil))))))) (gNm 6) (cYes) (eBin dMul (eBin dIx (eVar 6) (eC (.int 0))) (eBin dFdiv (eVar 3) (eBin dIx (eVar 6) (eC (.int 1))))) [.sh (Frq a), .sh (Frq b), .sh (Frq c), .sh (.int W), .dead, .dead, .dead, .dead] =
      some (.ol [.int (i0 a b c), .int (i1 a b c), .int (i2 a b c)], [.sh (Frq a), .sh (Frq b), .sh (Frq c), .sh (.int W), .dead, .dead, .dead, .dead]) := by
    refine (ev_compA Frq (fun q => PyData.int (q.num * (W.fdiv q.den))) [a, b, c] (ρi := [.sh (Frq a), .sh (Frq b), .sh (Frq c), .sh (.int W), .dead, .dead, .dead, .dead]) (by simp [sizeLine]) rfl (by simp [sizeLine]) (fun y hy => ?_)).trans (by simp [dA, dB, dC, putB, i0, i1, i2])
    have q0 : y.den ≠ 0 := y.den_nz
    have q1 : Builtin.divisionGoesByPylong W y.den = false ∧ mulOk y.num (W.fdiv y.den) = true := by
      simp at hy
      rcases hy with rfl | rfl | rfl
      · exact ⟨noPy ha.den (by omega), by rw [dA]; exact m1⟩
      · exact ⟨noPy hb.den (by omega), by rw [dB]; exact m2⟩
      · exact ⟨noPy hc.den (by omega), by rw [dC]; exact m3⟩
    refine ⟨[.sh (Frq a), .sh (Frq b), .sh (Frq c), .sh (.int W), .dead, .dead, .sh (Frq y), .dead], [.sh (Frq a), .sh (Frq b), .sh (Frq c), .sh (.int W), .dead, .dead, .sh (Frq y), .dead], rfl, ?_, rfl⟩
    simp [Frq, q0, q1.1, q1.2]
  have hsl : (if i0 a b c < 0 ∨ (i0 a b c = 0 ∧ i1 a b c < 0) then -gl a b c else gl a b c) = sl a b c := rfl
  have s1 := v_shared (a := i0 a b c) b2 (by omega)
  have s2 := v_shared (a := ((Int.gcd (i0 a b c) (i1 a b c) : Nat) : Int)) b3 (by omega)
  have sgn := sl_ne (c := c) h
  obtain ⟨t0, t1, t2⟩ := gl_dvd a b c
  have gb : Bd N (gl a b c) := bd_or (i01_ne h) b1 b2 t0 t1
  have sgb : Bd N (sl a b c) := by unfold sl; split; exact gb.neg; exact gb
  have s2 : m__law_shared [.sh (.int ((Int.gcd (i0 a b c) (i1 a b c) : Nat) : Int)), .sh (.int (i2 a b c))] = some (.sh (.int (gl a b c)), []) := s2
  unfold LnD nA nB nC
  generalize ((Int.gcd (i0 a b c) (i1 a b c) : Nat) : Int) = g1 at *
  generalize i0 a b c = z0 at *
  generalize i1 a b c = z1 at *
  generalize i2 a b c = z2 at *
  generalize gl a b c = g at *
  generalize sl a b c = sg at *
  have p : ∀ z : Int, Builtin.divisionGoesByPylong z sg = false := fun z => noPy sgb (by omega)
  have e5 : eComp none [7] (iSq (eVar 4)) (gNm 7) (cYes) (eBin dFdiv (eVar 7) (eVar 5)) [.sh (Frq a), .sh (Frq b), .sh (Frq c), .sh (.int W), .sh (.list (is [z0, z1, z2])), .sh (.int sg), .dead, .dead] =
      some (.ol [.int (z0.fdiv sg), .int (z1.fdiv sg), .int (z2.fdiv sg)], [.sh (Frq a), .sh (Frq b), .sh (Frq c), .sh (.int W), .sh (.list (is [z0, z1, z2])), .sh (.int sg), .dead, .dead]) := by
    refine (ev_compA PyData.int (fun z => PyData.int (z.fdiv sg)) [z0, z1, z2] (ρi := [.sh (Frq a), .sh (Frq b), .sh (Frq c), .sh (.int W), .sh (.list (is [z0, z1, z2])), .sh (.int sg), .dead, .dead]) (by simp) rfl (by simp [sizeLine]) (fun y hy => ?_)).trans (by simp [putB])
    refine ⟨[.sh (Frq a), .sh (Frq b), .sh (Frq c), .sh (.int W), .sh (.list (is [z0, z1, z2])), .sh (.int sg), .dead, .sh (.int y)], [.sh (Frq a), .sh (Frq b), .sh (Frq c), .sh (.int W), .sh (.list (is [z0, z1, z2])), .sh (.int sg), .dead, .sh (.int y)], rfl, ?_, rfl⟩
    simp [p, sgn]
  refine fn_ret (ρ' := [.sh (Frq a), .sh (Frq b), .sh (Frq c), .sh (.int W), .sh (.list (is [z0, z1, z2])), .sh (.int sg), .dead, .dead]) ?_
  show s__law_line [.sh (Frq a), .sh (Frq b), .sh (Frq c), .dead, .dead, .dead, .dead, .dead] = _
  unfold s__law_line
  refine (seq_nx (ρ1 := [.sh (Frq a), .sh (Frq b), .sh (Frq c), .sh (.int W), .dead, .dead, .dead, .dead]) (by simp [Frq, m4, m5, hW])).trans ?_
  refine (seq_nx (set_nx (show eFrz _ _ = some (.list (is [z0, z1, z2]), [.sh (Frq a), .sh (Frq b), .sh (Frq c), .sh (.int W), .dead, .dead, .dead, .dead]) by rw [ev_frz, e4]; rfl))).trans ?_
  refine (seq_nx (ρ1 := [.sh (Frq a), .sh (Frq b), .sh (Frq c), .sh (.int W), .sh (.list (is [z0, z1, z2])), .sh (.int g), .dead, .dead]) (by simp [s1, s2])).trans ?_
  refine (seq_nx (ρ1 := [.sh (Frq a), .sh (Frq b), .sh (Frq c), .sh (.int W), .sh (.list (is [z0, z1, z2])), .sh (.int sg), .dead, .dead]) ?_).trans ?_
  · have hs := hsl
    by_cases h1 : z0 < 0
    · rw [if_pos (.inl h1)] at hs
      simp [h1, hs]
    · by_cases h2 : z0 = 0 ∧ z1 < 0
      · rw [if_pos (.inr h2)] at hs
        obtain ⟨h2, h3⟩ := h2
        simp [h2, h3, hs]
      · rw [if_neg (fun z => z.elim h1 h2)] at hs
        by_cases h3 : z0 = 0
        · have h4 : ¬ z1 < 0 := fun z => h2 ⟨h3, z⟩
          simp [h3, h4, hs]
        · have h5 : (z0 == 0) = false := by rw [beq_eq_false_iff_ne]; exact h3
          simp [h1, h3, h5, hs]
  · refine ret_nx (ρ1 := [.sh (Frq a), .sh (Frq b), .sh (Frq c), .sh (.int W), .sh (.list (is [z0, z1, z2])), .sh (.int sg), .dead, .dead]) ?_
    rw [ev_cb, ev_acons, ev_frz, e5]
    rfl
theorem v_inorder (h : a ≠ 0 ∨ b ≠ 0) (ha : BdR n1 d1 a) (hb : BdR n2 d2 b) (hc : BdR n3 d3 c) (k0 : n1 + d2 + d3 ≤ N) (k1 : n2 + d1 + d3 ≤ N) (k2 : n3 + d1 + d2 ≤ N) (k3 : d1 + d2 + d3 ≤ N) (kN : N ≤ 8900) :
    m_in_order [.sh (Frq a), .sh (Frq b), .sh (Frq c)] = some (.sh (LnD a b c), []) := by
  have pa := den_pos' a
  have pb := den_pos' b
  have pc := den_pos' c
  generalize hW : (a.den : Int) * b.den * c.den = W
  have hW0 : W ≠ 0 := by rw [← hW]; exact Int.ne_of_gt (Int.mul_pos (Int.mul_pos pa pb) pc)
  have dA : W.fdiv a.den = b.den * c.den := by rw [← hW, Int.mul_assoc]; exact Int.mul_fdiv_cancel_left _ (Int.ne_of_gt pa)
  have dB : W.fdiv b.den = a.den * c.den := by rw [← hW, Int.mul_comm (a.den : Int), Int.mul_assoc]; exact Int.mul_fdiv_cancel_left _ (Int.ne_of_gt pb)
  have dC : W.fdiv c.den = a.den * b.den := by rw [← hW, Int.mul_comm _ (c.den : Int)]; exact Int.mul_fdiv_cancel_left _ (Int.ne_of_gt pc)
  have b1 : Bd N (i0 a b c) := (ha.num.mul (hb.den.mul hc.den)).mono (by omega)
  have b2 : Bd N (i1 a b c) := (hb.num.mul (ha.den.mul hc.den)).mono (by omega)
  have b3 : Bd N (i2 a b c) := (hc.num.mul (ha.den.mul hb.den)).mono (by omega)
  have m1 : mulOk a.num (b.den * c.den) = true := ha.num.mulOk (hb.den.mul hc.den) (by omega)
  have m2 : mulOk b.num (a.den * c.den) = true := hb.num.mulOk (ha.den.mul hc.den) (by omega)
  have m3 : mulOk c.num (a.den * b.den) = true := hc.num.mulOk (ha.den.mul hb.den) (by omega)
  have m4 : mulOk (a.den : Int) b.den = true := ha.den.mulOk hb.den (by omega)
  have m5 : mulOk ((a.den : Int) * b.den) c.den = true := (ha.den.mul hb.den).mulOk hc.den (by omega)
  have e4 : eComp none [6] (iSq (eTup (aCons (eVar 0) (aCons (eVar 1) (aCons (eVar 2) (aNil)))))) (gNm 6) (cYes) (eBin dMul (eBin dIx (eVar 6) (eC (.int 0))) (eBin dFdiv (eVar 3) (eBin dIx (eVar 6) (eC (.int 1))))) [.sh (Frq a), .sh (Frq b), .sh (Frq c), .sh (.int W), .dead, .dead, .dead, .dead] =
      some (.ol [.int (i0 a b c), .int (i1 a b c), .int (i2 a b c)], [.sh (Frq a), .sh (Frq b), .sh (Frq c), .sh (.int W), .dead, .dead, .dead, .dead]) := by
    refine (ev_compA Frq (fun q => PyData.int (q.num * (W.fdiv q.den))) [a, b, c] (ρi := [.sh (Frq a), .sh (Frq b), .sh (Frq c), .sh (.int W), .dead, .dead, .dead, .dead]) (by simp [sizeLine]) rfl (by simp [sizeLine]) (fun y hy => ?_)).trans (by simp [dA, dB, dC, putB, i0, i1, i2])
    have q0 : y.den ≠ 0 := y.den_nz
    have q1 : Builtin.divisionGoesByPylong W y.den = false ∧ mulOk y.num (W.fdiv y.den) = true := by
      simp at hy
      rcases hy with rfl | rfl | rfl
      · exact ⟨noPy ha.den (by omega), by rw [dA]; exact m1⟩
      · exact ⟨noPy hb.den (by omega), by rw [dB]; exact m2⟩
      · exact ⟨noPy hc.den (by omega), by rw [dC]; exact m3⟩
    refine ⟨[.sh (Frq a), .sh (Frq b), .sh (Frq c), .sh (.int W), .dead, .dead, .sh (Frq y), .dead], [.sh (Frq a), .sh (Frq b), .sh (Frq c), .sh (.int W), .dead, .dead, .sh (Frq y), .dead], rfl, ?_, rfl⟩
    simp [Frq, q0, q1.1, q1.2]
  have hsl : (if i0 a b c < 0 ∨ (i0 a b c = 0 ∧ i1 a b c < 0) then -gl a b c else gl a b c) = sl a b c := rfl
  have s1 := v_divisor (i0 a b c) (i1 a b c)
  have s2 := v_divisor ((Int.gcd (i0 a b c) (i1 a b c) : Nat) : Int) (i2 a b c)
  have sgn := sl_ne (c := c) h
  obtain ⟨t0, t1, t2⟩ := gl_dvd a b c
  have gb : Bd N (gl a b c) := bd_or (i01_ne h) b1 b2 t0 t1
  have sgb : Bd N (sl a b c) := by unfold sl; split; exact gb.neg; exact gb
  have s2 : m_divisor [.sh (.int ((Int.gcd (i0 a b c) (i1 a b c) : Nat) : Int)), .sh (.int (i2 a b c))] = some (.sh (.int (gl a b c)), []) := s2
  unfold LnD nA nB nC
  generalize ((Int.gcd (i0 a b c) (i1 a b c) : Nat) : Int) = g1 at *
  generalize i0 a b c = z0 at *
  generalize i1 a b c = z1 at *
  generalize i2 a b c = z2 at *
  generalize gl a b c = g at *
  generalize sl a b c = sg at *
  have p : ∀ z : Int, Builtin.divisionGoesByPylong z sg = false := fun z => noPy sgb (by omega)
  have e5 : eComp none [7] (iSq (eVar 4)) (gNm 7) (cYes) (eBin dFdiv (eVar 7) (eVar 5)) [.sh (Frq a), .sh (Frq b), .sh (Frq c), .sh (.int W), .sh (.list (is [z0, z1, z2])), .sh (.int sg), .dead, .dead] =
      some (.ol [.int (z0.fdiv sg), .int (z1.fdiv sg), .int (z2.fdiv sg)], [.sh (Frq a), .sh (Frq b), .sh (Frq c), .sh (.int W), .sh (.list (is [z0, z1, z2])), .sh (.int sg), .dead, .dead]) := by
    refine (ev_compA PyData.int (fun z => PyData.int (z.fdiv sg)) [z0, z1, z2] (ρi := [.sh (Frq a), .sh (Frq b), .sh (Frq c), .sh (.int W), .sh (.list (is [z0, z1, z2])), .sh (.int sg), .dead, .dead]) (by simp) rfl (by simp [sizeLine]) (fun y hy => ?_)).trans (by simp [putB])
    refine ⟨[.sh (Frq a), .sh (Frq b), .sh (Frq c), .sh (.int W), .sh (.list (is [z0, z1, z2])), .sh (.int sg), .dead, .sh (.int y)], [.sh (Frq a), .sh (Frq b), .sh (Frq c), .sh (.int W), .sh (.list (is [z0, z1, z2])), .sh (.int sg), .dead, .sh (.int y)], rfl, ?_, rfl⟩
    simp [p, sgn]
  refine fn_ret (ρ' := [.sh (Frq a), .sh (Frq b), .sh (Frq c), .sh (.int W), .sh (.list (is [z0, z1, z2])), .sh (.int sg), .dead, .dead]) ?_
  show s_in_order [.sh (Frq a), .sh (Frq b), .sh (Frq c), .dead, .dead, .dead, .dead, .dead] = _
  unfold s_in_order
  refine (seq_nx (ρ1 := [.sh (Frq a), .sh (Frq b), .sh (Frq c), .sh (.int W), .dead, .dead, .dead, .dead]) (by simp [Frq, m4, m5, hW])).trans ?_
  refine (seq_nx (set_nx (show eFrz _ _ = some (.list (is [z0, z1, z2]), [.sh (Frq a), .sh (Frq b), .sh (Frq c), .sh (.int W), .dead, .dead, .dead, .dead]) by rw [ev_frz, e4]; rfl))).trans ?_
  refine (seq_nx (ρ1 := [.sh (Frq a), .sh (Frq b), .sh (Frq c), .sh (.int W), .sh (.list (is [z0, z1, z2])), .sh (.int g), .dead, .dead]) (by simp [s1, s2])).trans ?_
  refine (seq_nx (ρ1 := [.sh (Frq a), .sh (Frq b), .sh (Frq c), .sh (.int W), .sh (.list (is [z0, z1, z2])), .sh (.int sg), .dead, .dead]) ?_).trans ?_
  · have hs := hsl
    by_cases h1 : z0 < 0
    · rw [if_pos (.inl h1)] at hs
      simp [h1, hs]
    · by_cases h2 : z0 = 0 ∧ z1 < 0
      · rw [if_pos (.inr h2)] at hs
        obtain ⟨h2, h3⟩ := h2
        simp [h2, h3, hs]
      · rw [if_neg (fun z => z.elim h1 h2)] at hs
        by_cases h3 : z0 = 0
        · have h4 : ¬ z1 < 0 := fun z => h2 ⟨h3, z⟩
          simp [h3, h4, hs]
        · have h5 : (z0 == 0) = false := by rw [beq_eq_false_iff_ne]; exact h3
          simp [h1, h3, h5, hs]
  · refine ret_nx (ρ1 := [.sh (Frq a), .sh (Frq b), .sh (Frq c), .sh (.int W), .sh (.list (is [z0, z1, z2])), .sh (.int sg), .dead, .dead]) ?_
    rw [ev_cb, ev_acons, ev_frz, e5]
    rfl
end

/-! ## points and lines: what the program's defs tell -/
def PtD (x y : Rat) : D := .tuple [Frq x, Frq y]
def TrD (A B C : Int) : D := .tuple [.int A, .int B, .int C]
structure BdP (n d : Nat) (x y : Rat) : Prop where
  x : BdR n d x
  y : BdR n d y
structure BdL (N : Nat) (A B C : Int) : Prop where
  a : Bd N A
  b : Bd N B
  c : Bd N C
/-- how far a point is beyond a line -/
def bey (A B C : Int) (x y : Rat) : Rat := (A : Rat) * x + (B : Rat) * y - (C : Rat)
def sq (A B : Int) : Int := A * A + B * B
def mx (A B C : Int) (x y : Rat) : Rat := x - 2 * bey A B C x y / (sq A B : Rat) * (A : Rat)
def my (A B C : Int) (x y : Rat) : Rat := y - 2 * bey A B C x y / (sq A B : Rat) * (B : Rat)
section
variable {A B C : Int} {x y : Rat} {N n d : Nat}
theorem bdr_bey (hl : BdL N A B C) (hp : BdP n d x y) : BdR (N + n + 2 * d + 5) (2 * d + 3) (bey A B C x y) :=
  (bdr_sub (bdr_add (bdr_mul (br_int hl.a) hp.x) (bdr_mul (br_int hl.b) hp.y)) (br_int hl.c)).mono (by omega) (by omega)
theorem v_beyond (hl : BdL N A B C) (hp : BdP n d x y) (h1 : N + n + d ≤ 90000000) (h2 : 2 * d + 3 ≤ 8900) : m_beyond [.sh (TrD A B C), .sh (PtD x y)] = some (.sh (Frq (bey A B C x y)), []) := by
  have e1 := v_times (br_int hl.a) hp.x (by omega) (by omega)
  have e2 := v_times (br_int hl.b) hp.y (by omega) (by omega)
  have b1 := bdr_mul (br_int hl.a) hp.x
  have b2 := bdr_mul (br_int hl.b) hp.y
  have e3 := v_plus b1 b2 (by omega) (by omega) (by omega)
  have b3 := bdr_add b1 b2
  have e4 := v_minus b3 (br_int hl.c) (by omega) (by omega) (by omega)
  rw [frq_int] at e1 e2 e4
  refine fn_ret (ρ' := [.sh (TrD A B C), .sh (PtD x y), .sh (.int A), .sh (.int B), .sh (.int C), .sh (Frq ((A : Rat) * x + (B : Rat) * y))]) ?_
  simp [s_beyond, TrD, PtD, sizeLine, e1, e2, e3, e4, bey]
theorem v_lbeyond (hl : BdL N A B C) (hp : BdP n d x y) (h1 : N + n + d ≤ 90000000) (h2 : 2 * d + 3 ≤ 1998) : m__law_beyond [.sh (TrD A B C), .sh (PtD x y)] = some (.sh (Frq (bey A B C x y)), []) := by
  have e1 := v_lmul (br_int hl.a) hp.x (by omega) (by omega)
  have e2 := v_lmul (br_int hl.b) hp.y (by omega) (by omega)
  have b1 := bdr_mul (br_int hl.a) hp.x
  have b2 := bdr_mul (br_int hl.b) hp.y
  have e3 := v_ladd b1 b2 (by omega) (by omega) (by omega)
  have b3 := bdr_add b1 b2
  have e4 := v_lless b3 (br_int hl.c) (by omega) (by omega) (by omega)
  rw [frq_int] at e1 e2 e4
  refine fn_ret (ρ' := [.sh (TrD A B C), .sh (PtD x y)]) ?_
  simp [s__law_beyond, TrD, PtD, sizeLine, e1, e2, e3, e4, bey]
theorem bd_sq (hl : BdL N A B C) : Bd (2 * N + 1) (sq A B) := ((hl.a.mul hl.a).add (hl.b.mul hl.b)).mono (by omega)
theorem sq_pos (h : A ≠ 0 ∨ B ≠ 0) : sq A B ≠ 0 := by
  have sn : ∀ z : Int, 0 ≤ z * z := fun z => by
    rcases Int.le_total 0 z with h | h
    · exact Int.mul_nonneg h h
    · exact Int.mul_nonneg_of_nonpos_of_nonpos h h
  have ha := sn A
  have hb := sn B
  unfold sq
  rcases h with h | h
  · have : A * A ≠ 0 := Int.mul_ne_zero h h
    omega
  · have : B * B ≠ 0 := Int.mul_ne_zero h h
    omega
theorem bdr_far (hl : BdL N A B C) (hp : BdP n d x y) (h0 : A ≠ 0 ∨ B ≠ 0) : BdR (N + n + 2 * d + 9) (2 * d + 2 * N + 6) (2 * bey A B C x y / (sq A B : Rat)) := by
  have h1 := sq_pos h0
  exact (bdr_div (bdr_mul br_two (bdr_bey hl hp)) (br_int (bd_sq hl)) (by intro z; exact h1 (by exact_mod_cast z))).mono (by omega) (by omega)
theorem bdp_mir (hl : BdL N A B C) (hp : BdP n d x y) (h0 : A ≠ 0 ∨ B ≠ 0) : BdP (2 * N + 2 * n + 4 * d + 20) (3 * d + 2 * N + 7) (mx A B C x y) (my A B C x y) :=
  ⟨(bdr_sub hp.x (bdr_mul (bdr_far hl hp h0) (br_int hl.a))).mono (by omega) (by omega), (bdr_sub hp.y (bdr_mul (bdr_far hl hp h0) (br_int hl.b))).mono (by omega) (by omega)⟩
theorem v_mirror_point (hl : BdL N A B C) (hp : BdP n d x y) (h0 : A ≠ 0 ∨ B ≠ 0) (h1 : N + n + d ≤ 10000000) (h2 : 3 * d + 2 * N + 8 ≤ 8900) : m_mirror_point [.sh (TrD A B C), .sh (PtD x y)] = some (.sh (PtD (mx A B C x y) (my A B C x y)), []) := by
  have s1 := sq_pos h0
  have e1 := v_beyond hl hp (by omega) (by omega)
  have e2 := v_times br_two (bdr_bey hl hp) (by omega) (by omega)
  have b2 := bdr_mul br_two (bdr_bey hl hp)
  have b1i : Bd 1 1 := by show (1 : Nat) < 2 ^ 1; decide
  have e3 := v_dividedR b2 (bd_sq hl) b1i (by omega) (by omega) s1
  have bf := bdr_far hl hp h0
  have ef : 2 * bey A B C x y / (sq A B : Rat) * ((1 : Int) : Rat) = 2 * bey A B C x y / (sq A B : Rat) := by
    have : ((1 : Int) : Rat) = 1 := rfl
    rw [this]; grind
  rw [ef] at e3
  have e4 := v_times (br_int hl.a) bf (by omega) (by omega)
  have e5 := v_times (br_int hl.b) bf (by omega) (by omega)
  have e6 := v_minus hp.x (bdr_mul (br_int hl.a) bf) (by omega) (by omega) (by omega)
  have e7 := v_minus hp.y (bdr_mul (br_int hl.b) bf) (by omega) (by omega) (by omega)
  have hx : x - (A : Rat) * (2 * bey A B C x y / (sq A B : Rat)) = mx A B C x y := by unfold mx; grind
  have hy : y - (B : Rat) * (2 * bey A B C x y / (sq A B : Rat)) = my A B C x y := by unfold my; grind
  rw [hx] at e6
  rw [hy] at e7
  have mA := hl.a.mulOk hl.a (by omega)
  have mB := hl.b.mulOk hl.b (by omega)
  rw [frq_int] at e4 e5
  have two : Frq (2 : Rat) = .tuple [.int 2, .int 1] := rfl
  rw [two] at e2
  generalize 2 * bey A B C x y / (sq A B : Rat) = far at *
  refine fn_ret (ρ' := [.sh (TrD A B C), .sh (PtD x y), .sh (.int A), .sh (.int B), .sh (.int C), .sh (Frq far)]) ?_
  unfold sq at e3
  simp [s_mirror_point, TrD, PtD, sizeLine] at e1 ⊢
  simp [e1, e2, mA, mB, e3, e4, e5, e6, e7]
theorem v_lmirror (hl : BdL N A B C) (hp : BdP n d x y) (h0 : A ≠ 0 ∨ B ≠ 0) (h1 : N + n + d ≤ 10000000) (h2 : 3 * d + 2 * N + 8 ≤ 1998) : m__law_mirror [.sh (TrD A B C), .sh (PtD x y)] = some (.sh (PtD (mx A B C x y) (my A B C x y)), []) := by
  have s1 := sq_pos h0
  have e1 := v_lbeyond hl hp (by omega) (by omega)
  have b22 : Bd 2 2 := by show (2 : Nat) < 2 ^ 2; decide
  have e2 := v_lmulR (bdr_bey hl hp) b22 (bd_sq hl) s1 (by omega) (by omega)
  have ef : bey A B C x y * Rat.divInt 2 (sq A B) = 2 * bey A B C x y / (sq A B : Rat) := by
    rw [di_rat]
    have : ((2 : Int) : Rat) = 2 := rfl
    rw [this]; grind
  rw [ef] at e2
  have bf := bdr_far hl hp h0
  have e4 := v_lmul bf (br_int hl.a) (by omega) (by omega)
  have e5 := v_lmul bf (br_int hl.b) (by omega) (by omega)
  have e6 := v_lless hp.x (bdr_mul bf (br_int hl.a)) (by omega) (by omega) (by omega)
  have e7 := v_lless hp.y (bdr_mul bf (br_int hl.b)) (by omega) (by omega) (by omega)
  have hx : x - (2 * bey A B C x y / (sq A B : Rat)) * (A : Rat) = mx A B C x y := rfl
  have hy : y - (2 * bey A B C x y / (sq A B : Rat)) * (B : Rat) = my A B C x y := rfl
  rw [hx] at e6
  rw [hy] at e7
  have mA := hl.a.mulOk hl.a (by omega)
  have mB := hl.b.mulOk hl.b (by omega)
  rw [frq_int] at e4 e5
  generalize 2 * bey A B C x y / (sq A B : Rat) = far at *
  refine fn_ret (ρ' := [.sh (TrD A B C), .sh (PtD x y), .sh (Frq far)]) ?_
  unfold sq at e2
  simp [s__law_mirror, TrD, PtD, sizeLine] at e1 ⊢
  simp [e1, e2, mA, mB, e4, e5, e6, e7]

end
/-! ## sides -/
def sgI (z : Int) : Int := if 0 < z then 1 else if z < 0 then -1 else 0
theorem v_side {A B C : Int} {x y : Rat} {N n d : Nat} (hl : BdL N A B C) (hp : BdP n d x y) (h1 : N + n + d ≤ 10000000) (h2 : 2 * d + 3 ≤ 8900) : m_side [.sh (TrD A B C), .sh (PtD x y)] = some (.sh (.int (sgI (bey A B C x y).num)), []) := by
  have e1 := v_beyond hl hp (by omega) h2
  have i0 : dIx (Frq (bey A B C x y)) (.int 0) = some (.int (bey A B C x y).num) := rfl
  refine fn_ret (ρ' := [.sh (TrD A B C), .sh (PtD x y), .sh (.int (bey A B C x y).num)]) ?_
  generalize (bey A B C x y).num = z at *
  unfold sgI
  by_cases h1 : 0 < z
  · simp [s_side, e1, i0, h1]
  · by_cases h2 : z < 0
    · simp [s_side, e1, i0, h1, h2]
    · simp [s_side, e1, i0, h1, h2]
theorem v_lsign (z : Int) : m__law_sign [.sh (.int z)] = some (.sh (.int (sgI z)), []) := by
  refine fn_ret (ρ' := [.sh (.int z)]) ?_
  unfold sgI
  by_cases h1 : 0 < z
  · have h2 : ¬ z < 0 := by omega
    simp [s__law_sign, h1, h2]
  · by_cases h2 : z < 0
    · simp [s__law_sign, h1, h2]
    · simp [s__law_sign, h1, h2]
theorem sgI_neg (z : Int) : sgI (-z) = -sgI z := by
  unfold sgI
  rcases Int.lt_trichotomy z 0 with h | h | h
  · rw [if_pos (by omega), if_neg (by omega), if_pos h]; rfl
  · subst h; rfl
  · rw [if_neg (by omega), if_pos (by omega), if_pos h]
/-! ## the line through two points -/
def tA (y v : Rat) : Rat := v - y
def tB (x u : Rat) : Rat := x - u
def tC (x y u v : Rat) : Rat := (v - y) * x + (x - u) * y
def ThD (x y u v : Rat) : D := LnD (v - y) (x - u) ((v - y) * x + (x - u) * y)
theorem apart {x y u v : Rat} (h : ¬ (x = u ∧ y = v)) : v - y ≠ 0 ∨ x - u ≠ 0 := by
  by_cases e : v - y = 0
  · right
    intro e2
    exact h ⟨by grind, by grind⟩
  · exact .inl e
theorem bdl_ln {a b c : Rat} {n1 d1 n2 d2 n3 d3 N : Nat} (h : a ≠ 0 ∨ b ≠ 0) (ha : BdR n1 d1 a) (hb : BdR n2 d2 b) (hc : BdR n3 d3 c) (k0 : n1 + d2 + d3 ≤ N) (k1 : n2 + d1 + d3 ≤ N) (k2 : n3 + d1 + d2 ≤ N) : BdL N (nA a b c) (nB a b c) (nC a b c) := by
  obtain ⟨d0, d1', d2'⟩ := sl_dvd a b c
  have s0 := sl_ne (c := c) h
  have b1 : Bd N (i0 a b c) := (ha.num.mul (hb.den.mul hc.den)).mono (by omega)
  have b2 : Bd N (i1 a b c) := (hb.num.mul (ha.den.mul hc.den)).mono (by omega)
  have b3 : Bd N (i2 a b c) := (hc.num.mul (ha.den.mul hb.den)).mono (by omega)
  exact ⟨b1.le (fdiv_exact_le d0 s0), b2.le (fdiv_exact_le d1' s0), b3.le (fdiv_exact_le d2' s0)⟩
section
variable {x y u v : Rat} {n d : Nat}
theorem bd_through (hp : BdP n d x y) (hq : BdP n d u v) : BdR (n + d + 1) (2 * d) (v - y) ∧ BdR (n + d + 1) (2 * d) (x - u) ∧ BdR (2 * n + 4 * d + 2) (6 * d) ((v - y) * x + (x - u) * y) := by
  have a1 : BdR (n + d + 1) (2 * d) (v - y) := (bdr_sub hq.y hp.y).mono (by omega) (by omega)
  have a2 : BdR (n + d + 1) (2 * d) (x - u) := (bdr_sub hp.x hq.x).mono (by omega) (by omega)
  exact ⟨a1, a2, (bdr_add (bdr_mul a1 hp.x) (bdr_mul a2 hp.y)).mono (by omega) (by omega)⟩
theorem bdl_through (hp : BdP n d x y) (hq : BdP n d u v) (h : ¬ (x = u ∧ y = v)) : BdL (2 * n + 10 * d + 2) (nA (v - y) (x - u) ((v - y) * x + (x - u) * y)) (nB (v - y) (x - u) ((v - y) * x + (x - u) * y)) (nC (v - y) (x - u) ((v - y) * x + (x - u) * y)) := by
  obtain ⟨a1, a2, a3⟩ := bd_through hp hq
  exact bdl_ln (apart h) a1 a2 a3 (by omega) (by omega) (by omega)
theorem v_through (hp : BdP n d x y) (hq : BdP n d u v) (h : ¬ (x = u ∧ y = v)) (h1 : 2 * n + 10 * d + 2 ≤ 8900) : m_line_through [.sh (PtD x y), .sh (PtD u v)] = some (.sh (ThD x y u v), []) := by
  obtain ⟨a1, a2, a3⟩ := bd_through hp hq
  have e1 := v_minus hq.y hp.y (by omega) (by omega) (by omega)
  have e2 := v_minus hp.x hq.x (by omega) (by omega) (by omega)
  have e3 := v_times a1 hp.x (by omega) (by omega)
  have e4 := v_times a2 hp.y (by omega) (by omega)
  have e5 := v_plus (bdr_mul a1 hp.x) (bdr_mul a2 hp.y) (by omega) (by omega) (by omega)
  have e6 := v_inorder (apart h) a1 a2 a3 (N := 2 * n + 10 * d + 2) (by omega) (by omega) (by omega) (by omega) (by omega)
  refine fn_ret (ρ' := [.sh (PtD x y), .sh (PtD u v), .sh (Frq (v - y)), .sh (Frq (x - u))]) ?_
  unfold ThD
  simp [s_line_through, PtD, e1, e2, e3, e4, e5, e6]
theorem v_lthrough (hp : BdP n d x y) (hq : BdP n d u v) (h : ¬ (x = u ∧ y = v)) (h1 : 2 * n + 10 * d + 2 ≤ 1998) : m__law_through [.sh (PtD x y), .sh (PtD u v)] = some (.sh (ThD x y u v), []) := by
  obtain ⟨a1, a2, a3⟩ := bd_through hp hq
  have e1 := v_lless hq.y hp.y (by omega) (by omega) (by omega)
  have e2 := v_lless hp.x hq.x (by omega) (by omega) (by omega)
  have e3 := v_lmul a1 hp.x (by omega) (by omega)
  have e4 := v_lmul a2 hp.y (by omega) (by omega)
  have e5 := v_ladd (bdr_mul a1 hp.x) (bdr_mul a2 hp.y) (by omega) (by omega) (by omega)
  have e6 := v_lline (apart h) a1 a2 a3 (N := 2 * n + 10 * d + 2) (by omega) (by omega) (by omega) (by omega) (by omega)
  refine fn_ret (ρ' := [.sh (PtD x y), .sh (PtD u v), .sh (Frq (v - y)), .sh (Frq (x - u))]) ?_
  unfold ThD
  simp [s__law_through, PtD, e1, e2, e3, e4, e5, e6]
end
/-! ## lines mirrored -/
def rA (A B a b : Int) : Int := a * (A * A - B * B) + 2 * A * B * b
def rB (A B a b : Int) : Int := b * (B * B - A * A) + 2 * A * B * a
def rC (A B C a b c : Int) : Int := 2 * C * (A * a + B * b) - c * sq A B
theorem mir_through {A B C a b c : Int} {x y u v t : Rat} (h0 : sq A B ≠ 0) (hp : (a : Rat) * x + (b : Rat) * y = (c : Rat)) (hu : u = x - t * b) (hv : v = y + t * a) :
    my A B C u v - my A B C x y = t / (sq A B : Rat) * (rA A B a b : Rat) ∧ mx A B C x y - mx A B C u v = t / (sq A B : Rat) * (rB A B a b : Rat) ∧
    (my A B C u v - my A B C x y) * mx A B C x y + (mx A B C x y - mx A B C u v) * my A B C x y = t / (sq A B : Rat) * (rC A B C a b c : Rat) := by
  have s0 : ((sq A B : Int) : Rat) ≠ 0 := by
    intro z
    exact h0 (by exact_mod_cast z)
  have es : ((sq A B : Int) : Rat) = (A : Rat) * A + (B : Rat) * B := by unfold sq; push_cast; rfl
  subst hu hv
  unfold mx my bey rA rB rC
  push_cast
  rw [es] at s0 ⊢
  generalize (A : Rat) = A' at *
  generalize (B : Rat) = B' at *
  generalize (C : Rat) = C' at *
  generalize (a : Rat) = a' at *
  generalize (b : Rat) = b' at *
  rw [← hp]
  have p1 : y + t * a' - 2 * (A' * (x - t * b') + B' * (y + t * a') - C') / (A' * A' + B' * B') * B' - (y - 2 * (A' * x + B' * y - C') / (A' * A' + B' * B') * B') =
      t / (A' * A' + B' * B') * (a' * (A' * A' - B' * B') + 2 * A' * B' * b') := by grind
  have p2 : x - 2 * (A' * x + B' * y - C') / (A' * A' + B' * B') * A' - (x - t * b' - 2 * (A' * (x - t * b') + B' * (y + t * a') - C') / (A' * A' + B' * B') * A') =
      t / (A' * A' + B' * B') * (b' * (B' * B' - A' * A') + 2 * A' * B' * a') := by grind
  refine ⟨p1, p2, ?_⟩
  rw [p1, p2]
  have hk : 2 * (A' * x + B' * y - C') / (A' * A' + B' * B') * (A' * A' + B' * B') = 2 * (A' * x + B' * y - C') := by grind
  generalize 2 * (A' * x + B' * y - C') / (A' * A' + B' * B') = k at *
  have e2 : k * ((A' * A' + B' * B') * (A' * a' + B' * b')) = 2 * (A' * x + B' * y - C') * (A' * a' + B' * b') := by rw [← Rat.mul_assoc, hk]
  have e3 : (a' * (A' * A' - B' * B') + 2 * A' * B' * b') * (x - k * A') + (b' * (B' * B' - A' * A') + 2 * A' * B' * a') * (y - k * B') = 2 * C' * (A' * a' + B' * b') - (a' * x + b' * y) * (A' * A' + B' * B') := by
    have : (a' * (A' * A' - B' * B') + 2 * A' * B' * b') * (x - k * A') + (b' * (B' * B' - A' * A') + 2 * A' * B' * a') * (y - k * B') = (a' * (A' * A' - B' * B') + 2 * A' * B' * b') * x + (b' * (B' * B' - A' * A') + 2 * A' * B' * a') * y - k * ((A' * A' + B' * B') * (A' * a' + B' * b')) := by grind
    rw [this, e2]
    grind
  rw [← e3]
  grind
theorem r_sq (A B a b : Int) : rA A B a b * rA A B a b + rB A B a b * rB A B a b = sq A B * sq A B * sq a b := by unfold rA rB sq; grind
theorem r_ne {A B a b : Int} (h : sq A B ≠ 0) (k : sq a b ≠ 0) : rA A B a b ≠ 0 ∨ rB A B a b ≠ 0 := by
  by_cases e : rA A B a b = 0
  · right
    intro e2
    have := r_sq A B a b
    rw [e, e2] at this
    have h2 := Int.mul_ne_zero (Int.mul_ne_zero h h) k
    omega
  · exact .inl e
theorem rat_ne {z : Int} (h : z ≠ 0) : (z : Rat) ≠ 0 := by
  intro e
  exact h (by exact_mod_cast e)
theorem rat_or {y z : Int} (h : y ≠ 0 ∨ z ≠ 0) : (y : Rat) ≠ 0 ∨ (z : Rat) ≠ 0 := h.imp rat_ne rat_ne
theorem bdl_r {A B C a b c : Int} {N M : Nat} (h : BdL N A B C) (k : BdL M a b c) : BdL (2 * N + M + 6) (rA A B a b) (rB A B a b) (rC A B C a b c) := by
  have b2 : Bd 2 2 := by show (2 : Nat) < 2 ^ 2; decide
  exact ⟨((k.a.mul ((h.a.mul h.a).sub (h.b.mul h.b))).add (((b2.mul h.a).mul h.b).mul k.b)).mono (by omega), ((k.b.mul ((h.b.mul h.b).sub (h.a.mul h.a))).add (((b2.mul h.a).mul h.b).mul k.a)).mono (by omega),
    (((b2.mul h.c).mul ((h.a.mul k.a).add (h.b.mul k.b))).sub (k.c.mul (bd_sq h))).mono (by omega)⟩
theorem sq_rat (A B : Int) : ((sq A B : Int) : Rat) = (A : Rat) * A + (B : Rat) * B := by unfold sq; push_cast; rfl
theorem sq_pos' {A B : Int} (h : sq A B ≠ 0) : 0 < sq A B := by
  have sn : ∀ z : Int, 0 ≤ z * z := fun z => by
    rcases Int.le_total 0 z with h | h
    · exact Int.mul_nonneg h h
    · exact Int.mul_nonneg_of_nonpos_of_nonpos h h
  have ha := sn A
  have hb := sn B
  unfold sq at *
  omega
/-- two points of a line -/
def ox (A B C : Int) : Rat := Rat.divInt (A * C) (sq A B)
def oy (A B C : Int) : Rat := Rat.divInt (B * C) (sq A B)
section
variable {A B C a b c : Int} {N M : Nat}
theorem bdp_o (h : BdL M a b c) (k : sq a b ≠ 0) : BdP (2 * M) (2 * M + 1) (ox a b c) (oy a b c) := ⟨(bdr_divInt (h.a.mul h.c) (bd_sq h) k).mono (by omega) (by omega), (bdr_divInt (h.b.mul h.c) (bd_sq h) k).mono (by omega) (by omega)⟩
theorem bdp_t (h : BdL M a b c) (k : sq a b ≠ 0) : BdP (3 * M + 2) (2 * M + 2) (ox a b c + b) (oy a b c - a) :=
  ⟨(bdr_add (bdp_o h k).x (br_int h.b)).mono (by omega) (by omega), (bdr_sub (bdp_o h k).y (br_int h.a)).mono (by omega) (by omega)⟩
theorem o_on (k : sq a b ≠ 0) : (a : Rat) * ox a b c + (b : Rat) * oy a b c = (c : Rat) := by
  have h := rat_ne k
  unfold ox oy
  rw [di_rat, di_rat]
  push_cast
  rw [sq_rat] at h ⊢
  grind
theorem v_two_points (h : BdL M a b c) (k : sq a b ≠ 0) (hM : 2 * M + 2 ≤ 8900) : m_two_points [.sh (TrD a b c)] = some (.sh (.tuple [PtD (ox a b c) (oy a b c), PtD (ox a b c + b) (oy a b c - a)]), []) := by
  have e1 := v_fraction (a := a * c) (sq_pos' k) (bd_sq h) (by omega)
  have e2 := v_fraction (a := b * c) (sq_pos' k) (bd_sq h) (by omega)
  have bo := bdp_o h k
  have e3 := v_plus bo.x (br_int h.b) (by omega) (by omega) (by omega)
  have e4 := v_minus bo.y (br_int h.a) (by omega) (by omega) (by omega)
  have m1 := h.a.mulOk h.c (by omega)
  have m2 := h.b.mulOk h.c (by omega)
  have m3 := h.a.mulOk h.a (by omega)
  have m4 := h.b.mulOk h.b (by omega)
  rw [frq_int] at e3 e4
  refine fn_ret (ρ' := [.sh (TrD a b c), .sh (.int a), .sh (.int b), .sh (.int c), .sh (PtD (ox a b c) (oy a b c))]) ?_
  have e1 : m_fraction [.sh (.int (a * c)), .sh (.int (sq a b))] = some (.sh (Frq (ox a b c)), []) := e1
  have e2 : m_fraction [.sh (.int (b * c)), .sh (.int (sq a b))] = some (.sh (Frq (oy a b c)), []) := e2
  generalize ox a b c = p at *
  generalize oy a b c = q at *
  unfold sq at e1 e2
  simp [s_two_points, TrD, PtD, sizeLine, m1, m2, m3, m4, e1, e2, e3, e4]
/-- a point over a common denominator, mirrored -/
theorem bdp_mirc {p r w : Int} {x y : Rat} {n d : Nat} (h : BdL N A B C) (hs : sq A B ≠ 0) (hp : Bd n p) (hr : Bd n r) (hw : Bd d w) (w0 : w ≠ 0) (ex : x = Rat.divInt p w) (ey : y = Rat.divInt r w) :
    BdP (2 * N + n + d + 8) (2 * N + d + 1) (mx A B C x y) (my A B C x y) := by
  have b2 : Bd 2 2 := by show (2 : Nat) < 2 ^ 2; decide
  have s0 := rat_ne hs
  have w1 := rat_ne w0
  have bb : Bd (N + n + d + 2) (A * p + B * r - C * w) := (((h.a.mul hp).add (h.b.mul hr)).sub (h.c.mul hw)).mono (by omega)
  have qx : mx A B C x y = Rat.divInt (p * sq A B - 2 * (A * p + B * r - C * w) * A) (w * sq A B) := by
    rw [di_rat, ex, ey]
    unfold mx bey
    rw [di_rat, di_rat]
    push_cast
    generalize ((sq A B : Int) : Rat) = S at *
    grind
  have qy : my A B C x y = Rat.divInt (r * sq A B - 2 * (A * p + B * r - C * w) * B) (w * sq A B) := by
    rw [di_rat, ex, ey]
    unfold my bey
    rw [di_rat, di_rat]
    push_cast
    generalize ((sq A B : Int) : Rat) = S at *
    grind
  have hz := Int.mul_ne_zero w0 hs
  rw [qx, qy]
  exact ⟨(bdr_divInt ((hp.mul (bd_sq h)).sub ((b2.mul bb).mul h.a)) (hw.mul (bd_sq h)) hz).mono (by omega) (by omega), (bdr_divInt ((hr.mul (bd_sq h)).sub ((b2.mul bb).mul h.b)) (hw.mul (bd_sq h)) hz).mono (by omega) (by omega)⟩
end
section
variable {A B C a b c : Int} {N M : Nat}
theorem v_mirror_line (h : BdL N A B C) (hs : sq A B ≠ 0) (k : BdL M a b c) (ks : sq a b ≠ 0) (hb : 24 * N + 30 * M + 60 ≤ 8900) :
    m_mirror_line [.sh (TrD A B C), .sh (TrD a b c)] = some (.sh (LnD (rA A B a b) (rB A B a b) (rC A B C a b c)), []) := by
  have h0 : A ≠ 0 ∨ B ≠ 0 := by
    by_cases e : A = 0
    · right; intro e2; exact hs (by rw [e, e2]; rfl)
    · exact .inl e
  have e1 := v_two_points k ks (by omega)
  have e2 := v_mirror_point h (bdp_o k ks) h0 (by omega) (by omega)
  have e3 := v_mirror_point h (bdp_t k ks) h0 (by omega) (by omega)
  have b1 : BdP (2 * N + 5 * M + 12) (2 * N + 2 * M + 2) (mx A B C (ox a b c) (oy a b c)) (my A B C (ox a b c) (oy a b c)) := by
    have := bdp_mirc h hs (k.a.mul k.c) (k.b.mul k.c) (bd_sq k) ks (x := ox a b c) (y := oy a b c) (d := 2 * M + 1) (n := M + M) rfl rfl
    exact ⟨this.x.mono (by omega) (by omega), this.y.mono (by omega) (by omega)⟩
  have s1 := rat_ne ks
  have qx : ox a b c + b = Rat.divInt (a * c + b * sq a b) (sq a b) := by
    unfold ox; rw [di_rat, di_rat]; push_cast
    generalize ((sq a b : Int) : Rat) = S at *
    grind
  have qy : oy a b c - a = Rat.divInt (b * c - a * sq a b) (sq a b) := by
    unfold oy; rw [di_rat, di_rat]; push_cast
    generalize ((sq a b : Int) : Rat) = S at *
    grind
  have b2 : BdP (2 * N + 5 * M + 12) (2 * N + 2 * M + 2) (mx A B C (ox a b c + b) (oy a b c - a)) (my A B C (ox a b c + b) (oy a b c - a)) := by
    have := bdp_mirc h hs (((k.a.mul k.c).add (k.b.mul (bd_sq k))).mono (m := 3 * M + 2) (by omega)) (((k.b.mul k.c).sub (k.a.mul (bd_sq k))).mono (m := 3 * M + 2) (by omega)) (bd_sq k) ks qx qy
    exact ⟨this.x.mono (by omega) (by omega), this.y.mono (by omega) (by omega)⟩
  obtain ⟨t1, t2, t3⟩ := mir_through (A := A) (B := B) (C := C) (t := -1) hs (o_on (c := c) ks) (u := ox a b c + b) (v := oy a b c - a) (by rw [Rat.neg_mul, Rat.one_mul, Rat.sub_eq_add_neg, Rat.neg_neg]) (by rw [Rat.neg_mul, Rat.one_mul, Rat.sub_eq_add_neg])
  have hr := rat_or (r_ne hs ks)
  have l0 : (-1 : Rat) / (sq A B : Rat) ≠ 0 := by
    have := rat_ne hs
    grind
  have hd : ¬ (mx A B C (ox a b c) (oy a b c) = mx A B C (ox a b c + b) (oy a b c - a) ∧ my A B C (ox a b c) (oy a b c) = my A B C (ox a b c + b) (oy a b c - a)) := by
    rintro ⟨z1, z2⟩
    rw [z2] at t1
    rw [z1] at t2
    rcases hr with hr | hr
    · have : (0 : Rat) = -1 / (sq A B : Rat) * (rA A B a b : Rat) := by grind
      grind
    · have : (0 : Rat) = -1 / (sq A B : Rat) * (rB A B a b : Rat) := by grind
      grind
  have e4 := v_through b1 b2 hd (by omega)
  have ee : ThD (mx A B C (ox a b c) (oy a b c)) (my A B C (ox a b c) (oy a b c)) (mx A B C (ox a b c + b) (oy a b c - a)) (my A B C (ox a b c + b) (oy a b c - a)) = LnD (rA A B a b) (rB A B a b) (rC A B C a b c) := by
    unfold ThD LnD
    obtain ⟨y1, y2, y3⟩ := ln_scale hr l0 t1 t2 t3
    rw [y1, y2, y3]
  rw [ee] at e4
  refine fn_ret (ρ' := [.sh (TrD A B C), .sh (TrD a b c), .sh (PtD (ox a b c) (oy a b c)), .sh (PtD (ox a b c + b) (oy a b c - a))]) ?_
  generalize LnD (rA A B a b) (rB A B a b) (rC A B C a b c) = res at *
  generalize mx A B C (ox a b c) (oy a b c) = u1 at *
  generalize my A B C (ox a b c) (oy a b c) = u2 at *
  generalize mx A B C (ox a b c + b) (oy a b c - a) = u3 at *
  generalize my A B C (ox a b c + b) (oy a b c - a) = u4 at *
  generalize PtD (ox a b c) (oy a b c) = p1 at *
  generalize PtD (ox a b c + b) (oy a b c - a) = p2 at *
  simp [s_mirror_line, e1, e2, e3, e4]
end
/-! ## meetings -/
def crs (A B a b : Int) : Int := A * b - a * B
def atX (A B C a b c : Int) : Rat := Rat.divInt (C * b - c * B) (crs A B a b)
def atY (A B C a b c : Int) : Rat := Rat.divInt (A * c - a * C) (crs A B a b)
def MtD (A B C a b c : Int) : D := if crs A B a b = 0 then .none else PtD (atX A B C a b c) (atY A B C a b c)
section
variable {A B C a b c : Int} {N M : Nat}
theorem bd_crs (h : BdL N A B C) (k : BdL M a b c) : Bd (N + M + 1) (crs A B a b) := ((h.a.mul k.b).sub (k.a.mul h.b)).mono (by omega)
theorem v_meeting (h : BdL N A B C) (k : BdL M a b c) (hb : N + M + 2 ≤ 8900) : m_meeting [.sh (TrD A B C), .sh (TrD a b c)] = some (.sh (MtD A B C a b c), []) := by
  have o1 := h.a.mulOk k.b (by omega)
  have o2 := k.a.mulOk h.b (by omega)
  have o3 := h.c.mulOk k.b (by omega)
  have o4 := k.c.mulOk h.b (by omega)
  have o5 := h.a.mulOk k.c (by omega)
  have o6 := k.a.mulOk h.c (by omega)
  unfold MtD
  by_cases hz : crs A B a b = 0
  · rw [if_pos hz]
    have hz : A * b - a * B = 0 := hz
    refine fn_ret (ρ' := [.sh (TrD A B C), .sh (TrD a b c), .sh (.int 0), .dead, .dead]) ?_
    simp [s_meeting, TrD, o1, o2, hz]
  · rw [if_neg hz]
    have b1 : Bd 1 1 := by show (1 : Nat) < 2 ^ 1; decide
    have bx : Bd (N + M + 1) (C * b - c * B) := ((h.c.mul k.b).sub (k.c.mul h.b)).mono (by omega)
    have by' : Bd (N + M + 1) (A * c - a * C) := ((h.a.mul k.c).sub (k.a.mul h.c)).mono (by omega)
    have e1 := v_dividedR (br_int bx) (bd_crs h k) b1 (by omega) (by omega) hz
    have e2 := v_dividedR (br_int by') (bd_crs h k) b1 (by omega) (by omega) hz
    have f1 : ((C * b - c * B : Int) : Rat) / (crs A B a b : Rat) * ((1 : Int) : Rat) = atX A B C a b c := by
      unfold atX; rw [di_rat]
      have : ((1 : Int) : Rat) = 1 := rfl
      rw [this]; grind
    have f2 : ((A * c - a * C : Int) : Rat) / (crs A B a b : Rat) * ((1 : Int) : Rat) = atY A B C a b c := by
      unfold atY; rw [di_rat]
      have : ((1 : Int) : Rat) = 1 := rfl
      rw [this]; grind
    rw [f1, frq_int] at e1
    rw [f2, frq_int] at e2
    have hq : (crs A B a b == 0) = false := by rw [beq_eq_false_iff_ne]; exact hz
    refine fn_ret (ρ' := [.sh (TrD A B C), .sh (TrD a b c), .sh (.int (crs A B a b)), .sh (.tuple [.int (C * b - c * B), .int 1]), .sh (.tuple [.int (A * c - a * C), .int 1])]) ?_
    unfold PtD
    generalize atX A B C a b c = X at *
    generalize atY A B C a b c = Y at *
    have hq : (A * b - a * B == 0) = false := hq
    unfold crs at *
    simp [s_meeting, TrD, o1, o2, o3, o4, o5, o6, hq, e1, e2, sizeLine]
theorem v_lat (h : BdL N A B C) (k : BdL M a b c) (hb : N + M + 2 ≤ 1998) : m__law_at [.sh (TrD A B C), .sh (TrD a b c)] = some (.sh (MtD A B C a b c), []) := by
  have o1 := h.a.mulOk k.b (by omega)
  have o2 := k.a.mulOk h.b (by omega)
  have o3 := h.c.mulOk k.b (by omega)
  have o4 := k.c.mulOk h.b (by omega)
  have o5 := h.a.mulOk k.c (by omega)
  have o6 := k.a.mulOk h.c (by omega)
  unfold MtD
  by_cases hz : crs A B a b = 0
  · rw [if_pos hz]
    have hz : A * b - a * B = 0 := hz
    refine fn_ret (ρ' := [.sh (TrD A B C), .sh (TrD a b c), .sh (.int 0)]) ?_
    simp [s__law_at, TrD, o1, o2, hz]
  · rw [if_neg hz]
    have e1 := v_frac (a := C * b - c * B) hz (bd_crs h k) (by omega)
    have e2 := v_frac (a := A * c - a * C) hz (bd_crs h k) (by omega)
    have hq : (crs A B a b == 0) = false := by rw [beq_eq_false_iff_ne]; exact hz
    refine fn_ret (ρ' := [.sh (TrD A B C), .sh (TrD a b c), .sh (.int (crs A B a b))]) ?_
    have e1 : m__law_frac [.sh (.int (C * b - c * B)), .sh (.int (crs A B a b))] = some (.sh (Frq (atX A B C a b c)), []) := e1
    have e2 : m__law_frac [.sh (.int (A * c - a * C)), .sh (.int (crs A B a b))] = some (.sh (Frq (atY A B C a b c)), []) := e2
    unfold PtD
    generalize atX A B C a b c = X at *
    generalize atY A B C a b c = Y at *
    have hq : (A * b - a * B == 0) = false := hq
    unfold crs at *
    simp [s__law_at, TrD, o1, o2, o3, o4, o5, o6, hq, e1, e2, sizeLine]
end
/-! ## a point on another one, a line on itself -/
def FoD (x y u v : Rat) : D := LnD (2 * (u - x)) (2 * (v - y)) (u * u + v * v - (x * x + y * y))
section
variable {x y u v : Rat} {n d : Nat}
theorem bd_fo (hp : BdP n d x y) (hq : BdP n d u v) : BdR (n + d + 3) (2 * d + 1) (2 * (u - x)) ∧ BdR (n + d + 3) (2 * d + 1) (2 * (v - y)) ∧ BdR (2 * n + 6 * d + 2) (8 * d) (u * u + v * v - (x * x + y * y)) :=
  ⟨(bdr_mul br_two (bdr_sub hq.x hp.x)).mono (by omega) (by omega), (bdr_mul br_two (bdr_sub hq.y hp.y)).mono (by omega) (by omega),
    (bdr_sub (bdr_add (bdr_mul hq.x hq.x) (bdr_mul hq.y hq.y)) (bdr_add (bdr_mul hp.x hp.x) (bdr_mul hp.y hp.y))).mono (by omega) (by omega)⟩
theorem apart2 (h : ¬ (x = u ∧ y = v)) : 2 * (u - x) ≠ 0 ∨ 2 * (v - y) ≠ 0 := by
  by_cases e : 2 * (u - x) = 0
  · right
    intro e2
    exact h ⟨by grind, by grind⟩
  · exact .inl e
theorem v_square_sum (hp : BdP n d x y) (h1 : 2 * n + 2 * d ≤ 1000000) (h2 : 4 * d ≤ 8900) : m_square_sum [.sh (PtD x y)] = some (.sh (Frq (x * x + y * y)), []) := by
  have e1 := v_times hp.x hp.x (by omega) (by omega)
  have e2 := v_times hp.y hp.y (by omega) (by omega)
  have e3 := v_plus (bdr_mul hp.x hp.x) (bdr_mul hp.y hp.y) (by omega) (by omega) (by omega)
  refine fn_ret (ρ' := [.sh (PtD x y)]) ?_
  simp [s_square_sum, PtD, e1, e2, e3]
theorem bdl_fo (hp : BdP n d x y) (hq : BdP n d u v) (h : ¬ (x = u ∧ y = v)) : BdL (2 * n + 13 * d + 6) (nA (2 * (u - x)) (2 * (v - y)) (u * u + v * v - (x * x + y * y))) (nB (2 * (u - x)) (2 * (v - y)) (u * u + v * v - (x * x + y * y))) (nC (2 * (u - x)) (2 * (v - y)) (u * u + v * v - (x * x + y * y))) := by
  obtain ⟨a1, a2, a3⟩ := bd_fo hp hq
  exact bdl_ln (apart2 h) a1 a2 a3 (by omega) (by omega) (by omega)
theorem v_point_on_point (hp : BdP n d x y) (hq : BdP n d u v) (h : ¬ (x = u ∧ y = v)) (h1 : 2 * n + 13 * d + 6 ≤ 8900) : m_point_on_point [.sh (PtD x y), .sh (PtD u v)] = some (.sh (FoD x y u v), []) := by
  obtain ⟨a1, a2, a3⟩ := bd_fo hp hq
  have e1 := v_minus hq.x hp.x (by omega) (by omega) (by omega)
  have e2 := v_minus hq.y hp.y (by omega) (by omega) (by omega)
  have e3 := v_times br_two (bdr_sub hq.x hp.x) (by omega) (by omega)
  have e4 := v_times br_two (bdr_sub hq.y hp.y) (by omega) (by omega)
  have e5 := v_square_sum hp (by omega) (by omega)
  have e6 := v_square_sum hq (by omega) (by omega)
  have e7 := v_minus (bdr_add (bdr_mul hq.x hq.x) (bdr_mul hq.y hq.y)) (bdr_add (bdr_mul hp.x hp.x) (bdr_mul hp.y hp.y)) (by omega) (by omega) (by omega)
  have e8 := v_inorder (apart2 h) a1 a2 a3 (N := 2 * n + 13 * d + 6) (by omega) (by omega) (by omega) (by omega) (by omega)
  have two : Frq (2 : Rat) = .tuple [.int 2, .int 1] := rfl
  rw [two] at e3 e4
  refine fn_ret (ρ' := [.sh (PtD x y), .sh (PtD u v), .sh (Frq (2 * (u - x))), .sh (Frq (2 * (v - y)))]) ?_
  unfold FoD
  unfold PtD at *
  simp [s_point_on_point, sizeLine, e1, e2, e3, e4, e5, e6, e7, e8]
end
def SfD (A B : Int) (x y : Rat) : D := LnD (B : Rat) ((-A : Int) : Rat) ((B : Rat) * x - (A : Rat) * y)
section
variable {A B C : Int} {x y : Rat} {N n d : Nat}
theorem bd_sf (hl : BdL N A B C) (hp : BdP n d x y) : BdR (N + n + d + 2) (2 * d + 2) ((B : Rat) * x - (A : Rat) * y) := (bdr_sub (bdr_mul (br_int hl.b) hp.x) (bdr_mul (br_int hl.a) hp.y)).mono (by omega) (by omega)
theorem apart3 (h0 : A ≠ 0 ∨ B ≠ 0) : (B : Rat) ≠ 0 ∨ ((-A : Int) : Rat) ≠ 0 := rat_or (h0.symm.imp id (fun h => by omega))
theorem bdl_sf (hl : BdL N A B C) (hp : BdP n d x y) (h0 : A ≠ 0 ∨ B ≠ 0) : BdL (N + n + 3 * d + 5) (nA (B : Rat) ((-A : Int) : Rat) ((B : Rat) * x - (A : Rat) * y)) (nB (B : Rat) ((-A : Int) : Rat) ((B : Rat) * x - (A : Rat) * y)) (nC (B : Rat) ((-A : Int) : Rat) ((B : Rat) * x - (A : Rat) * y)) :=
  bdl_ln (apart3 h0) (br_int hl.b) (br_int hl.a.neg) (bd_sf hl hp) (by omega) (by omega) (by omega)
theorem v_line_on_itself (hl : BdL N A B C) (hp : BdP n d x y) (h0 : A ≠ 0 ∨ B ≠ 0) (h1 : N + n + 3 * d + 5 ≤ 8900) : m_line_on_itself [.sh (TrD A B C), .sh (PtD x y)] = some (.sh (SfD A B x y), []) := by
  have e1 := v_times (br_int hl.b) hp.x (by omega) (by omega)
  have e2 := v_times (br_int hl.a) hp.y (by omega) (by omega)
  have e3 := v_minus (bdr_mul (br_int hl.b) hp.x) (bdr_mul (br_int hl.a) hp.y) (by omega) (by omega) (by omega)
  have e4 := v_inorder (apart3 h0) (br_int hl.b) (br_int hl.a.neg) (bd_sf hl hp) (N := N + n + 3 * d + 5) (by omega) (by omega) (by omega) (by omega) (by omega)
  rw [frq_int] at e1 e2
  rw [frq_int, frq_int] at e4
  refine fn_ret (ρ' := [.sh (TrD A B C), .sh (PtD x y), .sh (.int A), .sh (.int B), .sh (.int C)]) ?_
  unfold SfD
  simp [s_line_on_itself, TrD, PtD, sizeLine, e1, e2, e3]
  simp at e4
  simp [e4]
end
/-! ## equal points -/
theorem frq_inj {p q : Rat} : (p.num = q.num ∧ (p.den : Int) = q.den) ↔ p = q := by
  constructor
  · rintro ⟨h1, h2⟩
    exact Rat.ext h1 (by exact_mod_cast h2)
  · rintro rfl
    exact ⟨rfl, rfl⟩
theorem eqv_frq (p q : Rat) : PyData.eqv (Frq p) (Frq q) = decide (p = q) := by
  have e : PyData.eqv (Frq p) (Frq q) = ((p.num == q.num) && (((p.den : Int) == q.den) && true)) := rfl
  rw [e, Bool.and_true]
  by_cases h : p = q
  · subst h; simp
  · rw [decide_eq_false h]
    by_cases h1 : p.num = q.num
    · have h2 : ¬ (p.den : Int) = q.den := fun z => h (frq_inj.mp ⟨h1, z⟩)
      rw [beq_eq_false_iff_ne.mpr h2, Bool.and_false]
    · rw [beq_eq_false_iff_ne.mpr h1, Bool.false_and]
theorem eqv_pt (x y u v : Rat) : PyData.eqv (PtD x y) (PtD u v) = decide (x = u ∧ y = v) := by
  have e : PyData.eqv (PtD x y) (PtD u v) = (PyData.eqv (Frq x) (Frq u) && (PyData.eqv (Frq y) (Frq v) && true)) := rfl
  rw [e, eqv_frq, eqv_frq, Bool.and_true, Bool.decide_and]
theorem bEq_pt (x y u v : Rat) : bEq (PtD x y) (PtD u v) = some (decide (x = u ∧ y = v)) := by
  rw [ev_eq (d := PtD x y) (e := PtD u v) rfl rfl, eqv_pt]
theorem bNe_pt (x y u v : Rat) : bNe (PtD x y) (PtD u v) = some (!decide (x = u ∧ y = v)) := by
  have : bNe (PtD x y) (PtD u v) = some (!PyData.eqv (PtD x y) (PtD u v)) := rfl
  rw [this, eqv_pt]
theorem sokQ (n : Nat) (q : Rat) : sok (n + 1) (Frq q) = true := by
  unfold Frq
  simp [sok, soks]
theorem sameP (x y : Rat) : m__law_same 12 [.sh (PtD x y), .sh (PtD x y)] = some (.sh (.bool true), []) := v_same 11 _ (by unfold PtD; simp [sok, soks, sokQ])
theorem sameL (a b c : Rat) : m__law_same 12 [.sh (LnD a b c), .sh (LnD a b c)] = some (.sh (.bool true), []) := v_same 11 _ (by unfold LnD; simp [sok, soks])
theorem sameI (z : Int) : m__law_same 12 [.sh (.int z), .sh (.int z)] = some (.sh (.bool true), []) := v_same 11 _ (by simp [sok])
theorem sameB (z : Bool) : m__law_same 12 [.sh (.bool z), .sh (.bool z)] = some (.sh (.bool true), []) := v_same 11 _ (by simp [sok])
theorem sameM (A B C a b c : Int) : m__law_same 12 [.sh (MtD A B C a b c), .sh (MtD A B C a b c)] = some (.sh (.bool true), []) := v_same 11 _ (by unfold MtD PtD; split <;> simp [sok, soks, sokQ])
section
variable {A B C : Int} {x y u v : Rat} {N n d : Nat}
theorem v_lays_on (hl : BdL N A B C) (hp : BdP n d x y) (h0 : A ≠ 0 ∨ B ≠ 0) (h1 : N + n + d ≤ 10000000) (h2 : 3 * d + 2 * N + 8 ≤ 8900) : m_lays_on [.sh (TrD A B C), .sh (PtD x y), .sh (PtD u v)] = some (.sh (.bool (decide (mx A B C x y = u ∧ my A B C x y = v))), []) := by
  have e := v_mirror_point hl hp h0 h1 h2
  refine fn_ret (ρ' := [.sh (TrD A B C), .sh (PtD x y), .sh (PtD u v)]) ?_
  simp [s_lays_on, e, bEq_pt]
theorem bey_mir (hs : sq A B ≠ 0) : bey A B C (mx A B C x y) (my A B C x y) = -bey A B C x y := by
  have s0 := rat_ne hs
  have e : bey A B C (mx A B C x y) (my A B C x y) = bey A B C x y - 2 * bey A B C x y / (sq A B : Rat) * ((A : Rat) * A + (B : Rat) * B) := by unfold mx my; unfold bey; grind
  rw [e, ← sq_rat]
  grind
theorem mir_mir (hs : sq A B ≠ 0) : mx A B C (mx A B C x y) (my A B C x y) = x ∧ my A B C (mx A B C x y) (my A B C x y) = y := by
  have e := bey_mir (C := C) (x := x) (y := y) hs
  constructor
  · show mx A B C x y - 2 * bey A B C (mx A B C x y) (my A B C x y) / (sq A B : Rat) * (A : Rat) = x
    rw [e]; unfold mx; grind
  · show my A B C x y - 2 * bey A B C (mx A B C x y) (my A B C x y) / (sq A B : Rat) * (B : Rat) = y
    rw [e]; unfold my; grind
theorem mir_fix (hs : sq A B ≠ 0) (h0 : A ≠ 0 ∨ B ≠ 0) : (mx A B C x y = x ∧ my A B C x y = y) ↔ bey A B C x y = 0 := by
  have s0 := rat_ne hs
  constructor
  · rintro ⟨h1, h2⟩
    unfold mx at h1
    unfold my at h2
    rcases rat_or h0 with h | h
    · have : 2 * bey A B C x y / (sq A B : Rat) * (A : Rat) = 0 := by grind
      have : 2 * bey A B C x y / (sq A B : Rat) = 0 := by grind
      grind
    · have : 2 * bey A B C x y / (sq A B : Rat) * (B : Rat) = 0 := by grind
      have : 2 * bey A B C x y / (sq A B : Rat) = 0 := by grind
      grind
  · intro e
    unfold mx my
    rw [e]
    constructor <;> grind
theorem num_zero (q : Rat) : (q.num == 0) = decide (q = 0) := by
  by_cases h : q = 0
  · subst h; rfl
  · rw [decide_eq_false h, beq_eq_false_iff_ne]
    exact num_ne h
end
/-- a row of checks over the same points -/
structure PtIn (n d : Nat) (p : Rat × Rat) : Prop where
  b : BdP n d p.1 p.2
def pD (p : Rat × Rat) : D := PtD p.1 p.2
theorem v_law_on {A B C : Int} {N n d : Nat} (ps : List (Rat × Rat)) (hl : BdL N A B C) (h0 : A ≠ 0 ∨ B ≠ 0) (hp : ∀ p ∈ ps, BdP n d p.1 p.2) (h1 : N + n + d ≤ 100000) (h2 : 9 * d + 8 * N + 40 ≤ 1998) :
    m__law_on [.sh (TrD A B C), .sh (.list (ps.map pD))] = some (.sh (.bool true), []) := by
  have hs := sq_pos h0
  have lp := loop_same pD (xs0 := ps.map pD) (ks := [2, 3, 4, 5]) (b := fun x ρ => (gNm 2 x ρ).bind b__law_on_2) (ρ0 := [.sh (TrD A B C), .sh (.list (ps.map pD)), .dead, .dead, .dead, .dead]) ps (fun p hpm => by
    obtain ⟨x, y⟩ := p
    have bp : BdP n d x y := hp (x, y) hpm
    have bm := bdp_mir hl bp h0
    have e1 := v_lbeyond hl bp (by omega) (by omega)
    have e2 := v_lmirror hl bp h0 (by omega) (by omega)
    have e3 := v_side hl bp (by omega) (by omega)
    have e4 := v_lsign (bey A B C x y).num
    have e5 := v_mirror_point hl bp h0 (by omega) (by omega)
    have e6 := v_side hl bm (by omega) (by omega)
    rw [bey_mir hs, show ∀ q : Rat, (-q).num = -q.num from fun _ => rfl, sgI_neg] at e6
    have e7 := v_mirror_point hl bm h0 (by omega) (by omega)
    rw [(mir_mir hs).1, (mir_mir hs).2] at e7
    have e8 := v_lays_on (u := mx A B C x y) (v := my A B C x y) hl bp h0 (by omega) (by omega)
    rw [decide_eq_true ⟨rfl, rfl⟩] at e8
    have e9 := bEq_pt (mx A B C x y) (my A B C x y) x y
    have e10 : decide (mx A B C x y = x ∧ my A B C x y = y) = decide (bey A B C x y = 0) := by
      by_cases z : bey A B C x y = 0
      · rw [decide_eq_true z, decide_eq_true ((mir_fix hs h0).mpr z)]
      · rw [decide_eq_false z, decide_eq_false (fun w => z ((mir_fix hs h0).mp w))]
    rw [e10] at e9
    have e11 := num_zero (bey A B C x y)
    have lp2 := loop_same pD (xs0 := ps.map pD) (ks := [5]) (b := fun x ρ => (gNm 5 x ρ).bind b__law_on_1) (ρ0 := [.sh (TrD A B C), .sh (.list (ps.map pD)), .sh (PtD x y), .sh (.int (bey A B C x y).num), .sh (PtD (mx A B C x y) (my A B C x y)), .dead]) ps (fun q _ => by
      have f1 := v_lays_on (u := q.1) (v := q.2) hl bp h0 (by omega) (by omega)
      have f2 := bEq_pt (mx A B C x y) (my A B C x y) q.1 q.2
      have f3 := sameB (decide (mx A B C x y = q.1 ∧ my A B C x y = q.2))
      refine ⟨[.sh (TrD A B C), .sh (.list (ps.map pD)), .sh (PtD x y), .sh (.int (bey A B C x y).num), .sh (PtD (mx A B C x y) (my A B C x y)), .sh (PtD q.1 q.2)], .inl ?_, rfl⟩
      generalize decide (mx A B C x y = q.1 ∧ my A B C x y = q.2) = kk at *
      generalize mx A B C x y = X at *
      generalize my A B C x y = Y at *
      simp [b__law_on_1, pD, f1, f2, f3]) (ρ := [.sh (TrD A B C), .sh (.list (ps.map pD)), .sh (PtD x y), .sh (.int (bey A B C x y).num), .sh (PtD (mx A B C x y) (my A B C x y)), .dead]) rfl
    have el : l__law_on_1 [.sh (TrD A B C), .sh (.list (ps.map pD)), .sh (PtD x y), .sh (.int (bey A B C x y).num), .sh (PtD (mx A B C x y) (my A B C x y)), .dead] = some (.nx [.sh (TrD A B C), .sh (.list (ps.map pD)), .sh (PtD x y), .sh (.int (bey A B C x y).num), .sh (PtD (mx A B C x y) (my A B C x y)), .dead]) := for_nx rfl lp2
    refine ⟨[.sh (TrD A B C), .sh (.list (ps.map pD)), .sh (PtD x y), .sh (.int (bey A B C x y).num), .sh (PtD (mx A B C x y) (my A B C x y)), .dead], .inl ?_, rfl⟩
    have s1 := sameI (sgI (bey A B C x y).num)
    have s2 := sameP (mx A B C x y) (my A B C x y)
    have s3 := sameI (-sgI (bey A B C x y).num)
    have s4 := sameP x y
    have s5 := sameB true
    have i0 : dIx (Frq (bey A B C x y)) (.int 0) = some (.int (bey A B C x y).num) := rfl
    have e12 : bNe (PyData.bool (decide (bey A B C x y = 0))) (PyData.bool ((bey A B C x y).num == 0)) = some false := by rw [e11]; exact ev_neR rfl
    generalize (bey A B C x y).num = nb at *
    generalize decide (bey A B C x y = 0) = kz at *
    generalize Frq (bey A B C x y) = fb at *
    generalize PtD (mx A B C x y) (my A B C x y) = im at *
    show (b__law_on_2 [.sh (TrD A B C), .sh (.list (ps.map pD)), .sh (PtD x y), .dead, .dead, .dead]) = _
    generalize PtD x y = pt at *
    generalize ps.map pD = lst at *
    simp [b__law_on_2, e1, i0, e2, e3, e4, e5, e6, e7, e8, e9, e12, s1, s2, s3, s4, s5, el]) (ρ := [.sh (TrD A B C), .sh (.list (ps.map pD)), .dead, .dead, .dead, .dead]) rfl
  refine fn_ret (ρ' := [.sh (TrD A B C), .sh (.list (ps.map pD)), .dead, .dead, .dead, .dead]) ?_
  show s__law_on [.sh (TrD A B C), .sh (.list (ps.map pD)), .dead, .dead, .dead, .dead] = _
  unfold s__law_on
  exact (seq_nx (for_nx rfl lp)).trans rfl
/-! ## the checks of folds -/
theorem fold_rat {A B C l x y u v S : Rat} (hA : A = l * (2 * (u - x))) (hB : B = l * (2 * (v - y))) (hC : C = l * (u * u + v * v - (x * x + y * y))) (hS : S = A * A + B * B) (h0 : S ≠ 0) :
    x - 2 * (A * x + B * y - C) / S * A = u ∧ y - 2 * (A * x + B * y - C) / S * B = v := by
  have e : 2 * (A * x + B * y - C) * (2 * l) = -S := by rw [hS, hA, hB, hC]; grind
  have hl : l ≠ 0 := by
    intro z
    apply h0
    rw [hS, hA, hB, z]
    grind
  have e2 : 2 * (A * x + B * y - C) / S = -(1 / (2 * l)) := by grind
  rw [e2, hA, hB]
  constructor <;> grind
theorem tr_ln (a b c : Rat) : LnD a b c = TrD (nA a b c) (nB a b c) (nC a b c) := rfl
theorem norm_or {A B C : Int} (h : Norm A B C) : A ≠ 0 ∨ B ≠ 0 := by
  rcases h.2 with z | ⟨_, z⟩ <;> omega
section
variable {x y u v z w : Rat} {n d : Nat}
theorem fo_maps (h : ¬ (x = u ∧ y = v)) : mx (nA (2 * (u - x)) (2 * (v - y)) (u * u + v * v - (x * x + y * y))) (nB (2 * (u - x)) (2 * (v - y)) (u * u + v * v - (x * x + y * y))) (nC (2 * (u - x)) (2 * (v - y)) (u * u + v * v - (x * x + y * y))) x y = u ∧
    my (nA (2 * (u - x)) (2 * (v - y)) (u * u + v * v - (x * x + y * y))) (nB (2 * (u - x)) (2 * (v - y)) (u * u + v * v - (x * x + y * y))) (nC (2 * (u - x)) (2 * (v - y)) (u * u + v * v - (x * x + y * y))) x y = v := by
  obtain ⟨_, ha, hb, hc, hn⟩ := nl_spec (c := u * u + v * v - (x * x + y * y)) (apart2 h)
  have hs := rat_ne (sq_pos (norm_or hn))
  have := fold_rat ha hb hc (sq_rat _ _) hs
  exact this
theorem fo_turn (h : ¬ (x = u ∧ y = v)) : FoD u v x y = FoD x y u v := by
  unfold FoD LnD
  obtain ⟨e1, e2, e3⟩ := ln_scale (l := -1) (apart2 h) (by decide) (show 2 * (x - u) = -1 * (2 * (u - x)) by grind) (show 2 * (y - v) = -1 * (2 * (v - y)) by grind) (show x * x + y * y - (u * u + v * v) = -1 * (u * u + v * v - (x * x + y * y)) by grind)
  rw [e1, e2, e3]
theorem v_lfo (hp : BdP n d x y) (hq : BdP n d u v) (h : ¬ (x = u ∧ y = v)) (h1 : 2 * n + 13 * d + 6 ≤ 1998) : m__law_line [.sh (Frq (2 * (u - x))), .sh (Frq (2 * (v - y))), .sh (Frq (u * u + v * v - (x * x + y * y)))] = some (.sh (FoD x y u v), []) := by
  obtain ⟨a1, a2, a3⟩ := bd_fo hp hq
  exact v_lline (apart2 h) a1 a2 a3 (N := 2 * n + 13 * d + 6) (by omega) (by omega) (by omega) (by omega) (by omega)
theorem apart_symm (h : ¬ (x = u ∧ y = v)) : ¬ (u = x ∧ v = y) := fun ⟨a, b⟩ => h ⟨a.symm, b.symm⟩
theorem v_law_folds (hp : BdP n d x y) (hq : BdP n d u v) (hr : BdP n d z w) (h : ¬ (x = u ∧ y = v)) (h1 : 6 * n + 50 * d + 40 ≤ 1998) : m__law_folds [.sh (PtD x y), .sh (PtD u v), .sh (PtD z w)] = some (.sh (.bool true), []) := by
  have e1 := v_lless hq.x hp.x (by omega) (by omega) (by omega)
  have e2 := v_lless hq.y hp.y (by omega) (by omega) (by omega)
  have e3 := v_lmul br_two (bdr_sub hq.x hp.x) (by omega) (by omega)
  have e4 := v_lmul br_two (bdr_sub hq.y hp.y) (by omega) (by omega)
  have e5 : eComp none [7] (iSq (eFrz (eLst (aCons (eVar 0) (aCons (eVar 1) (aNil)))))) (gNm 7) (cYes) (eRetD (eCall0 m__law_add (aCons (eRetD (eCall0 m__law_mul (aCons (eBin dIx (eVar 7) (eC (.int 0))) (aCons (eBin dIx (eVar 7) (eC (.int 0))) (aNil))))) (aCons (eRetD (eCall0 m__law_mul (aCons (eBin dIx (eVar 7) (eC (.int 1))) (aCons (eBin dIx (eVar 7) (eC (.int 1))) (aNil))))) (aNil))))) [.sh (PtD x y), .sh (PtD u v), .sh (PtD z w), .sh (Frq (2 * (u - x))), .sh (Frq (2 * (v - y))), .dead, .dead, .dead] =
      some (.ol [Frq (x * x + y * y), Frq (u * u + v * v)], [.sh (PtD x y), .sh (PtD u v), .sh (PtD z w), .sh (Frq (2 * (u - x))), .sh (Frq (2 * (v - y))), .dead, .dead, .dead]) := by
    refine (ev_compA pD (fun p => Frq (p.1 * p.1 + p.2 * p.2)) [(x, y), (u, v)] (ρi := [.sh (PtD x y), .sh (PtD u v), .sh (PtD z w), .sh (Frq (2 * (u - x))), .sh (Frq (2 * (v - y))), .dead, .dead, .dead]) (by simp [sizeLine, pD]) rfl (by simp [sizeLine]) (fun p hpm => ?_)).trans (by simp [putB])
    have bp : BdP n d p.1 p.2 := by
      simp at hpm
      rcases hpm with rfl | rfl
      · exact hp
      · exact hq
    have g1 := v_lmul bp.x bp.x (by omega) (by omega)
    have g2 := v_lmul bp.y bp.y (by omega) (by omega)
    have g3 := v_ladd (bdr_mul bp.x bp.x) (bdr_mul bp.y bp.y) (by omega) (by omega) (by omega)
    refine ⟨_, [.sh (PtD x y), .sh (PtD u v), .sh (PtD z w), .sh (Frq (2 * (u - x))), .sh (Frq (2 * (v - y))), .dead, .dead, .sh (pD p)], rfl, ?_, rfl⟩
    generalize PtD x y = q1
    generalize PtD u v = q2
    generalize PtD z w = q3
    simp [pD, PtD, g1, g2, g3]
  have e6 := v_lless (bdr_add (bdr_mul hq.x hq.x) (bdr_mul hq.y hq.y)) (bdr_add (bdr_mul hp.x hp.x) (bdr_mul hp.y hp.y)) (by omega) (by omega) (by omega)
  have e7 := v_lfo hp hq h (by omega)
  have e8 := v_point_on_point hp hq h (by omega)
  have e9 := v_point_on_point hq hp (apart_symm h) (by omega)
  rw [fo_turn h] at e9
  obtain ⟨_, _, _, _, hn⟩ := nl_spec (c := u * u + v * v - (x * x + y * y)) (apart2 h)
  have bl := bdl_fo hp hq h
  obtain ⟨k1, k2⟩ := fo_maps h
  have e10 := v_lmirror bl hp (norm_or hn) (by omega) (by omega)
  have e11 := v_mirror_point bl hq (norm_or hn) (by omega) (by omega)
  obtain ⟨k3, k4⟩ := mir_mir (C := nC (2 * (u - x)) (2 * (v - y)) (u * u + v * v - (x * x + y * y))) (x := x) (y := y) (sq_pos (norm_or hn))
  rw [k1, k2] at k3 k4
  rw [k3, k4] at e11
  have e12 := v_lays_on (u := u) (v := v) bl hp (norm_or hn) (by omega) (by omega)
  have e13 := v_lays_on (u := z) (v := w) bl hp (norm_or hn) (by omega) (by omega)
  rw [k1, k2] at e10 e12 e13
  rw [decide_eq_true ⟨rfl, rfl⟩] at e12
  have e14 := bEq_pt u v z w
  have e15 := sameB (decide (u = z ∧ v = w))
  have e16 := sameB true
  have e17 : bNe (PtD u v) (PtD u v) = some false := ev_neR rfl
  have s1 := sameP x y
  have s2 : m__law_same 12 [.sh (FoD x y u v), .sh (FoD x y u v)] = some (.sh (.bool true), []) := sameL _ _ _
  have two : Frq (2 : Rat) = .tuple [.int 2, .int 1] := rfl
  rw [two] at e3 e4
  have hF : FoD x y u v = TrD (nA (2 * (u - x)) (2 * (v - y)) (u * u + v * v - (x * x + y * y))) (nB (2 * (u - x)) (2 * (v - y)) (u * u + v * v - (x * x + y * y))) (nC (2 * (u - x)) (2 * (v - y)) (u * u + v * v - (x * x + y * y))) := rfl
  rw [← hF] at e10 e11 e12 e13
  generalize FoD x y u v = fo at *
  refine fn_ret (ρ' := [.sh (PtD x y), .sh (PtD u v), .sh (PtD z w), .sh (Frq (2 * (u - x))), .sh (Frq (2 * (v - y))), .sh (.list [Frq (x * x + y * y), Frq (u * u + v * v)]), .sh fo, .dead]) ?_
  show s__law_folds [.sh (PtD x y), .sh (PtD u v), .sh (PtD z w), .dead, .dead, .dead, .dead, .dead] = _
  unfold s__law_folds
  have x0 : dIx (PtD x y) (.int 0) = some (Frq x) := rfl
  have x1 : dIx (PtD x y) (.int 1) = some (Frq y) := rfl
  have u0 : dIx (PtD u v) (.int 0) = some (Frq u) := rfl
  have u1 : dIx (PtD u v) (.int 1) = some (Frq v) := rfl
  generalize PtD x y = q1 at *
  generalize PtD u v = q2 at *
  generalize PtD z w = q3 at *
  rw [seq_nx (ρ1 := [.sh q1, .sh q2, .sh q3, .sh (Frq (2 * (u - x))), .dead, .dead, .dead, .dead]) (by simp [sizeLine, x0, u0, e1, e3])]
  rw [seq_nx (ρ1 := [.sh q1, .sh q2, .sh q3, .sh (Frq (2 * (u - x))), .sh (Frq (2 * (v - y))), .dead, .dead, .dead]) (by simp [sizeLine, x1, u1, e2, e4])]
  rw [seq_nx (set_nx (show eFrz _ _ = some (.list [Frq (x * x + y * y), Frq (u * u + v * v)], [.sh q1, .sh q2, .sh q3, .sh (Frq (2 * (u - x))), .sh (Frq (2 * (v - y))), .dead, .dead, .dead]) by rw [ev_frz, e5]; rfl))]
  refine (seq_nx (ρ1 := [.sh q1, .sh q2, .sh q3, .sh (Frq (2 * (u - x))), .sh (Frq (2 * (v - y))), .sh (.list [Frq (x * x + y * y), Frq (u * u + v * v)]), .sh fo, .dead]) (by simp [e6, e7])).trans ?_
  generalize Frq (2 * (u - x)) = y3 at *
  generalize Frq (2 * (v - y)) = y4 at *
  generalize PyData.list [Frq (x * x + y * y), Frq (u * u + v * v)] = y5 at *
  rw [seq_nx (ρ1 := [.sh q1, .sh q2, .sh q3, .sh y3, .sh y4, .sh y5, .sh fo, .dead]) (by simp [e8, e9, s2])]
  rw [seq_nx (ρ1 := [.sh q1, .sh q2, .sh q3, .sh y3, .sh y4, .sh y5, .sh fo, .dead]) (by simp [e10, e11, e17, s1])]
  generalize decide (u = z ∧ v = w) = kk at *
  simp [e10, e12, e13, e14, e15, e16]
end
theorem ln_tr {A B C : Int} {a' b' c' l : Rat} (h : Norm A B C) (hl : l ≠ 0) (ha : a' = l * A) (hb : b' = l * B) (hc : c' = l * C) : LnD a' b' c' = TrD A B C := by
  obtain ⟨e1, e2, e3⟩ := ln_scale (rat_or (norm_or h)) hl ha hb hc
  obtain ⟨f1, f2, f3⟩ := ln_self h
  unfold LnD TrD
  rw [e1, e2, e3, f1, f2, f3]
section
variable {A B C : Int} {x y : Rat} {N n d : Nat}
theorem v_lsf (hl : BdL N A B C) (hp : BdP n d x y) (h0 : A ≠ 0 ∨ B ≠ 0) (h1 : N + n + 3 * d + 5 ≤ 1998) : m__law_line [.sh (.tuple [.int B, .int 1]), .sh (.tuple [.int (-A), .int 1]), .sh (Frq ((B : Rat) * x - (A : Rat) * y))] = some (.sh (SfD A B x y), []) := by
  have e4 := v_lline (apart3 h0) (br_int hl.b) (br_int hl.a.neg) (bd_sf hl hp) (N := N + n + 3 * d + 5) (by omega) (by omega) (by omega) (by omega) (by omega)
  rw [frq_int, frq_int] at e4
  exact e4
theorem v_law_square (hn : Norm A B C) (hl : BdL N A B C) (hp : BdP n d x y) (h1 : 60 * N + 24 * n + 80 * d + 300 ≤ 8900) (h2 : N + n + 3 * d + 5 ≤ 1998) : m__law_square [.sh (TrD A B C), .sh (PtD x y)] = some (.sh (.bool true), []) := by
  have h0 := norm_or hn
  have e1 := v_lmul (br_int hl.b) hp.x (by omega) (by omega)
  have e2 := v_lmul (br_int hl.a) hp.y (by omega) (by omega)
  have e3 := v_lless (bdr_mul (br_int hl.b) hp.x) (bdr_mul (br_int hl.a) hp.y) (by omega) (by omega) (by omega)
  have e4 := v_lsf hl hp h0 h2
  have e5 := v_line_on_itself hl hp h0 (by omega)
  have bl := bdl_sf hl hp h0
  obtain ⟨l0, ha, hb, hc, hn2⟩ := nl_spec (c := (B : Rat) * x - (A : Rat) * y) (apart3 h0)
  generalize hF : SfD A B x y = sf at *
  have hF : sf = TrD (nA (B : Rat) ((-A : Int) : Rat) ((B : Rat) * x - (A : Rat) * y)) (nB (B : Rat) ((-A : Int) : Rat) ((B : Rat) * x - (A : Rat) * y)) (nC (B : Rat) ((-A : Int) : Rat) ((B : Rat) * x - (A : Rat) * y)) := hF.symm
  generalize scl (B : Rat) ((-A : Int) : Rat) ((B : Rat) * x - (A : Rat) * y) = l at *
  generalize nA (B : Rat) ((-A : Int) : Rat) ((B : Rat) * x - (A : Rat) * y) = P at *
  generalize nB (B : Rat) ((-A : Int) : Rat) ((B : Rat) * x - (A : Rat) * y) = Q at *
  generalize nC (B : Rat) ((-A : Int) : Rat) ((B : Rat) * x - (A : Rat) * y) = R at *
  have hb : (Q : Rat) = -(l * A) := by rw [hb]; push_cast; grind
  have hs := sq_pos h0
  have hs2 := sq_pos (norm_or hn2)
  have e6 := v_side bl hp (by omega) (by omega)
  have z0 : bey P Q R x y = 0 := by
    unfold bey
    rw [ha, hb, hc]
    grind
  rw [z0] at e6
  have hdot : A * P + B * Q = 0 := by
    have : ((A * P + B * Q : Int) : Rat) = 0 := by
      push_cast
      rw [ha, hb]
      grind
    exact_mod_cast this
  have e7 := v_mirror_line bl hs2 hl hs (by omega)
  have k0 : -(l * l) * ((sq A B : Int) : Rat) ≠ 0 := by
    have := rat_ne hs
    grind
  rw [ln_tr hn k0 (by unfold rA; push_cast; rw [sq_rat, ha, hb]; grind) (by unfold rB; push_cast; rw [sq_rat, ha, hb]; grind) (by unfold rC; push_cast; rw [sq_rat, sq_rat, ha, hb]; grind)] at e7
  rw [← hF] at e6 e7
  have o1 : mulOk A P = true := hl.a.mulOk bl.a (by omega)
  have o2 : mulOk B Q = true := hl.b.mulOk bl.b (by omega)
  have s1 : m__law_same 12 [.sh sf, .sh sf] = some (.sh (.bool true), []) := by rw [hF]; exact v_same 11 _ (by unfold TrD; simp [sok, soks])
  have s2 := sameI 0
  have s3 : m__law_same 12 [.sh (TrD A B C), .sh (TrD A B C)] = some (.sh (.bool true), []) := v_same 11 _ (by unfold TrD; simp [sok, soks])
  have i0 : dIx sf (.int 0) = some (.int P) := by rw [hF]; rfl
  have i1 : dIx sf (.int 1) = some (.int Q) := by rw [hF]; rfl
  have j0 : dIx (TrD A B C) (.int 0) = some (.int A) := rfl
  have j1 : dIx (TrD A B C) (.int 1) = some (.int B) := rfl
  have p0 : dIx (PtD x y) (.int 0) = some (Frq x) := rfl
  have p1 : dIx (PtD x y) (.int 1) = some (Frq y) := rfl
  have sg0 : sgI (Rat.num 0) = 0 := rfl
  rw [sg0] at e6
  rw [frq_int] at e1 e2
  refine fn_ret (ρ' := [.sh (TrD A B C), .sh (PtD x y), .sh sf, .sh sf]) ?_
  show s__law_square [.sh (TrD A B C), .sh (PtD x y), .dead, .dead] = _
  unfold s__law_square
  generalize TrD A B C = ln at *
  generalize PtD x y = pt at *
  rw [seq_nx (ρ1 := [.sh ln, .sh pt, .sh sf, .dead]) (by simp [sizeLine, j0, j1, p0, p1, e1, e2, e3, e4])]
  rw [seq_nx (ρ1 := [.sh ln, .sh pt, .sh sf, .sh sf]) (by simp [e5])]
  rw [seq_nx (ρ1 := [.sh ln, .sh pt, .sh sf, .sh sf]) (by simp [s1, e6, s2, i0, i1, j0, j1, o1, o2, hdot])]
  simp [e7, s3]
end
section
variable {A B C a b c : Int} {x y u v l : Rat} {N M n d : Nat}
theorem mt_turn : MtD a b c A B C = MtD A B C a b c := by
  unfold MtD atX atY
  have e : crs a b A B = -crs A B a b := by unfold crs; grind
  by_cases h : crs A B a b = 0
  · rw [if_pos h, if_pos (by rw [e, h]; rfl)]
  · rw [if_neg h, if_neg (by rw [e]; omega), e]
    have e1 : c * B - C * b = -(C * b - c * B) := by omega
    have e2 : a * C - A * c = -(A * c - a * C) := by omega
    rw [e1, e2, Rat.neg_divInt_neg, Rat.neg_divInt_neg]
theorem v_law_lines (hl : BdL N A B C) (h0 : A ≠ 0 ∨ B ≠ 0) (hn : Norm a b c) (hk : BdL M a b c) (hp : BdP n d x y) (hq : BdP n d u v) (l0 : l ≠ 0) (ha : (a : Rat) = l * (v - y)) (hb : (b : Rat) = l * (x - u)) (hc : (c : Rat) = l * ((v - y) * x + (x - u) * y))
    (k1 : 24 * N + 4 * n + 38 * d + 120 ≤ 1998) (k2 : 90 * N + 30 * M + 300 ≤ 8900) (k3 : N + M + 2 ≤ 1998) (h1 : n ≤ 100000) : m__law_lines [.sh (TrD A B C), .sh (TrD a b c), .sh (.tuple [PtD x y, PtD u v])] = some (.sh (.bool true), []) := by
  have hs := sq_pos h0
  have ks := sq_pos (norm_or hn)
  have e1 := v_mirror_line hl hs hk ks (by omega)
  have e2 := v_meeting hl hk (by omega)
  have e3 := v_lat hl hk (by omega)
  have e4 := v_meeting hk hl (by omega)
  rw [mt_turn] at e4
  have e5 := v_lmirror hl hp h0 (by omega) (by omega)
  have e6 := v_lmirror hl hq h0 (by omega) (by omega)
  have hon : (a : Rat) * x + (b : Rat) * y = (c : Rat) := by rw [ha, hb, hc]; grind
  obtain ⟨t1, t2, t3⟩ := mir_through (A := A) (B := B) (C := C) (t := 1 / l) hs hon (u := u) (v := v) (by rw [hb]; grind) (by rw [ha]; grind)
  have hr := rat_or (r_ne hs ks)
  have tl : 1 / l / (sq A B : Rat) ≠ 0 := by
    have := rat_ne hs
    grind
  have hd : ¬ (mx A B C x y = mx A B C u v ∧ my A B C x y = my A B C u v) := by
    rintro ⟨z1, z2⟩
    rw [z2] at t1
    rw [z1] at t2
    rcases hr with hr | hr
    · have : (0 : Rat) = 1 / l / (sq A B : Rat) * (rA A B a b : Rat) := by grind
      grind
    · have : (0 : Rat) = 1 / l / (sq A B : Rat) * (rB A B a b : Rat) := by grind
      grind
  have e7 := v_lthrough (bdp_mir hl hp h0) (bdp_mir hl hq h0) hd (by omega)
  have ee : ThD (mx A B C x y) (my A B C x y) (mx A B C u v) (my A B C u v) = LnD (rA A B a b) (rB A B a b) (rC A B C a b c) := by
    unfold ThD LnD
    obtain ⟨y1, y2, y3⟩ := ln_scale hr tl t1 t2 t3
    rw [y1, y2, y3]
  rw [ee] at e7
  obtain ⟨q0, qa, qb, qc, qn⟩ := nl_spec (c := (rC A B C a b c : Rat)) hr
  have br := bdl_r hl hk
  have bt : BdL (2 * N + M + 8) (nA (rA A B a b : Rat) (rB A B a b) (rC A B C a b c)) (nB (rA A B a b : Rat) (rB A B a b) (rC A B C a b c)) (nC (rA A B a b : Rat) (rB A B a b) (rC A B C a b c)) :=
    bdl_ln hr (br_int br.a) (br_int br.b) (br_int br.c) (by omega) (by omega) (by omega)
  have e8 := v_mirror_line hl hs bt (sq_pos (norm_or qn)) (by omega)
  have hT : LnD (rA A B a b) (rB A B a b) (rC A B C a b c) = TrD (nA (rA A B a b : Rat) (rB A B a b) (rC A B C a b c)) (nB (rA A B a b : Rat) (rB A B a b) (rC A B C a b c)) (nC (rA A B a b : Rat) (rB A B a b) (rC A B C a b c)) := rfl
  have s2 := sameL (rA A B a b) (rB A B a b) (rC A B C a b c)
  generalize scl (rA A B a b : Rat) (rB A B a b) (rC A B C a b c) = k at *
  generalize nA (rA A B a b : Rat) (rB A B a b) (rC A B C a b c) = P at *
  generalize nB (rA A B a b : Rat) (rB A B a b) (rC A B C a b c) = Q at *
  generalize nC (rA A B a b : Rat) (rB A B a b) (rC A B C a b c) = R at *
  have m0 : k * ((sq A B : Int) : Rat) * ((sq A B : Int) : Rat) ≠ 0 := by
    have := rat_ne hs
    grind
  rw [ln_tr hn m0 (by unfold rA; push_cast; rw [sq_rat, qa, qb]; unfold rA rB; push_cast; grind) (by unfold rB; push_cast; rw [sq_rat, qa, qb]; unfold rA rB; push_cast; grind) (by unfold rC; push_cast; rw [sq_rat, qa, qb, qc]; unfold rA rB rC; push_cast; rw [sq_rat]; grind), ← hT] at e8
  have s1 := sameM A B C a b c
  have s3 : m__law_same 12 [.sh (TrD a b c), .sh (TrD a b c)] = some (.sh (.bool true), []) := v_same 11 _ (by unfold TrD; simp [sok, soks])
  generalize MtD A B C a b c = mt at *
  generalize LnD (rA A B a b) (rB A B a b) (rC A B C a b c) = told at *
  generalize PtD (mx A B C x y) (my A B C x y) = w1 at *
  generalize PtD (mx A B C u v) (my A B C u v) = w2 at *
  generalize PtD x y = p1 at *
  generalize PtD u v = p2 at *
  generalize TrD A B C = l1 at *
  generalize TrD a b c = l2 at *
  refine fn_ret (ρ' := [.sh l1, .sh l2, .sh (.tuple [p1, p2]), .sh told]) ?_
  show s__law_lines [.sh l1, .sh l2, .sh (.tuple [p1, p2]), .dead] = _
  unfold s__law_lines
  rw [seq_nx (ρ1 := [.sh l1, .sh l2, .sh (.tuple [p1, p2]), .sh told]) (by simp [e1])]
  rw [seq_nx (ρ1 := [.sh l1, .sh l2, .sh (.tuple [p1, p2]), .sh told]) (by simp [e2, e3, e4, s1])]
  rw [seq_nx (ρ1 := [.sh l1, .sh l2, .sh (.tuple [p1, p2]), .sh told]) (by simp [e5, e6, e7, s2])]
  simp [e8, s3]
end
section
variable {x y u v z w p q : Rat} {n d : Nat}
theorem th_on (h : ¬ (x = u ∧ y = v)) : bey (nA (v - y) (x - u) ((v - y) * x + (x - u) * y)) (nB (v - y) (x - u) ((v - y) * x + (x - u) * y)) (nC (v - y) (x - u) ((v - y) * x + (x - u) * y)) x y = 0 := by
  obtain ⟨_, ha, hb, hc, _⟩ := nl_spec (c := (v - y) * x + (x - u) * y) (apart h)
  unfold bey
  rw [ha, hb, hc]
  grind
theorem v_law_large (hp : BdP n d x y) (hq : BdP n d u v) (hr : BdP n d z w) (ht : BdP n d p q) (h : ¬ (x = u ∧ y = v)) (h2 : ¬ (z = p ∧ w = q)) (hb : 6 * n + 50 * d + 60 ≤ 1998) : m__law_large [.sh (PtD x y), .sh (PtD u v), .sh (PtD z w), .sh (PtD p q)] = some (.sh (.bool true), []) := by
  have e1 := v_lthrough hp hq h (by omega)
  have e2 := v_lthrough hr ht h2 (by omega)
  have e3 := v_through hp hq h (by omega)
  have bl := bdl_through hp hq h
  have bl2 := bdl_through hr ht h2
  obtain ⟨_, _, _, _, hn⟩ := nl_spec (c := (v - y) * x + (x - u) * y) (apart h)
  have h0 := norm_or hn
  have hs := sq_pos h0
  have e4 := v_meeting bl bl2 (by omega)
  have e5 := v_lat bl bl2 (by omega)
  have e6 := v_side bl hr (by omega) (by omega)
  have e7 := v_lbeyond bl hr (by omega) (by omega)
  have e8 := v_lsign (bey (nA (v - y) (x - u) ((v - y) * x + (x - u) * y)) (nB (v - y) (x - u) ((v - y) * x + (x - u) * y)) (nC (v - y) (x - u) ((v - y) * x + (x - u) * y)) z w).num
  have e9 := v_side bl hp (by omega) (by omega)
  rw [th_on h, show sgI (Rat.num 0) = 0 from rfl] at e9
  have e10 := v_mirror_point bl hr h0 (by omega) (by omega)
  have e11 := v_lmirror bl hr h0 (by omega) (by omega)
  have e12 := v_lays_on (u := x) (v := y) bl hp h0 (by omega) (by omega)
  rw [decide_eq_true ((mir_fix hs h0).mpr (th_on h))] at e12
  have a1 := v_lmul (br_int bl.b) hr.x (by omega) (by omega)
  have a2 := v_lmul (br_int bl.a) hr.y (by omega) (by omega)
  have a3 := v_lless (bdr_mul (br_int bl.b) hr.x) (bdr_mul (br_int bl.a) hr.y) (by omega) (by omega) (by omega)
  have a4 := v_lsf bl hr h0 (by omega)
  have a5 := v_line_on_itself bl hr h0 (by omega)
  rw [frq_int] at a1 a2
  have f1 := v_point_on_point hp hq h (by omega)
  have f2 := v_point_on_point hq hp (apart_symm h) (by omega)
  rw [fo_turn h] at f2
  obtain ⟨_, _, _, _, fn⟩ := nl_spec (c := u * u + v * v - (x * x + y * y)) (apart2 h)
  have fl := bdl_fo hp hq h
  obtain ⟨k1, k2⟩ := fo_maps h
  have f3 := v_lmirror fl hp (norm_or fn) (by omega) (by omega)
  rw [k1, k2] at f3
  have f4 := v_lline (rat_or (norm_or fn)) (br_int fl.a) (br_int fl.b) (br_int fl.c) (N := 2 * n + 13 * d + 8) (by omega) (by omega) (by omega) (by omega) (by omega)
  obtain ⟨g1, g2, g3⟩ := ln_self fn
  rw [frq_int, frq_int, frq_int] at f4
  have hL : ThD x y u v = TrD (nA (v - y) (x - u) ((v - y) * x + (x - u) * y)) (nB (v - y) (x - u) ((v - y) * x + (x - u) * y)) (nC (v - y) (x - u) ((v - y) * x + (x - u) * y)) := rfl
  have hL2 : ThD z w p q = TrD (nA (q - w) (z - p) ((q - w) * z + (z - p) * w)) (nB (q - w) (z - p) ((q - w) * z + (z - p) * w)) (nC (q - w) (z - p) ((q - w) * z + (z - p) * w)) := rfl
  have hF : FoD x y u v = TrD (nA (2 * (u - x)) (2 * (v - y)) (u * u + v * v - (x * x + y * y))) (nB (2 * (u - x)) (2 * (v - y)) (u * u + v * v - (x * x + y * y))) (nC (2 * (u - x)) (2 * (v - y)) (u * u + v * v - (x * x + y * y))) := rfl
  unfold LnD at f4
  rw [g1, g2, g3, show PyData.tuple [.int _, .int _, .int _] = FoD x y u v from rfl] at f4
  rw [← hF] at f3
  have s1 := sameL (v - y) (x - u) ((v - y) * x + (x - u) * y)
  have s1 : m__law_same 12 [.sh (ThD x y u v), .sh (ThD x y u v)] = some (.sh (.bool true), []) := s1
  have s2 : m__law_same 12 [.sh (FoD x y u v), .sh (FoD x y u v)] = some (.sh (.bool true), []) := sameL _ _ _
  have o0 : dIx (FoD x y u v) (.int 0) = some (.int (nA (2 * (u - x)) (2 * (v - y)) (u * u + v * v - (x * x + y * y)))) := rfl
  have o1 : dIx (FoD x y u v) (.int 1) = some (.int (nB (2 * (u - x)) (2 * (v - y)) (u * u + v * v - (x * x + y * y)))) := rfl
  have o2 : dIx (FoD x y u v) (.int 2) = some (.int (nC (2 * (u - x)) (2 * (v - y)) (u * u + v * v - (x * x + y * y)))) := rfl
  have o3 : bEq (FoD x y u v) (FoD x y u v) = some true := ev_eqR rfl
  generalize nA (2 * (u - x)) (2 * (v - y)) (u * u + v * v - (x * x + y * y)) = F1 at *
  generalize nB (2 * (u - x)) (2 * (v - y)) (u * u + v * v - (x * x + y * y)) = F2 at *
  generalize nC (2 * (u - x)) (2 * (v - y)) (u * u + v * v - (x * x + y * y)) = F3 at *
  generalize FoD x y u v = fo at *
  generalize nA (v - y) (x - u) ((v - y) * x + (x - u) * y) = A at *
  generalize nB (v - y) (x - u) ((v - y) * x + (x - u) * y) = B at *
  generalize nC (v - y) (x - u) ((v - y) * x + (x - u) * y) = C at *
  generalize nA (q - w) (z - p) ((q - w) * z + (z - p) * w) = A2 at *
  generalize nB (q - w) (z - p) ((q - w) * z + (z - p) * w) = B2 at *
  generalize nC (q - w) (z - p) ((q - w) * z + (z - p) * w) = C2 at *
  rw [← hL] at e4 e5 e6 e7 e9 e10 e11 e12 a5
  rw [← hL2] at e4 e5
  have s3 := sameM A B C A2 B2 C2
  have s4 := sameI (sgI (bey A B C z w).num)
  have s5 := sameI 0
  have s6 := sameP (mx A B C z w) (my A B C z w)
  have s7 := sameB true
  have s8 : m__law_same 12 [.sh (SfD A B z w), .sh (SfD A B z w)] = some (.sh (.bool true), []) := sameL _ _ _
  have i0 : dIx (Frq (bey A B C z w)) (.int 0) = some (.int (bey A B C z w).num) := rfl
  have j0 : dIx (ThD x y u v) (.int 0) = some (.int A) := by rw [hL]; rfl
  have j1 : dIx (ThD x y u v) (.int 1) = some (.int B) := by rw [hL]; rfl
  have p0 : dIx (PtD z w) (.int 0) = some (Frq z) := rfl
  have p1 : dIx (PtD z w) (.int 1) = some (Frq w) := rfl
  have o4 : bEq (PtD u v) (PtD u v) = some true := ev_eqR rfl
  clear hL hL2 hF
  generalize (bey A B C z w).num = nb at *
  generalize Frq (bey A B C z w) = fb at *
  generalize PtD (mx A B C z w) (my A B C z w) = im at *
  generalize ThD x y u v = l1 at *
  generalize ThD z w p q = l2 at *
  generalize MtD A B C A2 B2 C2 = mt at *
  generalize SfD A B z w = sf at *
  generalize PtD x y = q1 at *
  generalize PtD u v = q2 at *
  generalize PtD z w = q3 at *
  generalize PtD p q = q4 at *
  refine fn_ret (ρ' := [.sh q1, .sh q2, .sh q3, .sh q4, .sh l1, .sh l2, .sh sf, .sh fo]) ?_
  show s__law_large [.sh q1, .sh q2, .sh q3, .sh q4, .dead, .dead, .dead, .dead] = _
  unfold s__law_large
  rw [seq_nx (ρ1 := [.sh q1, .sh q2, .sh q3, .sh q4, .sh l1, .dead, .dead, .dead]) (by simp [e1])]
  rw [seq_nx (ρ1 := [.sh q1, .sh q2, .sh q3, .sh q4, .sh l1, .sh l2, .dead, .dead]) (by simp [e2])]
  rw [seq_nx (ρ1 := [.sh q1, .sh q2, .sh q3, .sh q4, .sh l1, .sh l2, .dead, .dead]) (by simp [e3, s1, e4, e5, s3])]
  rw [seq_nx (ρ1 := [.sh q1, .sh q2, .sh q3, .sh q4, .sh l1, .sh l2, .dead, .dead]) (by simp [e6, e7, i0, e8, s4, e9, s5])]
  rw [seq_nx (ρ1 := [.sh q1, .sh q2, .sh q3, .sh q4, .sh l1, .sh l2, .dead, .dead]) (by simp [e10, e11, s6, e12, s7])]
  rw [seq_nx (ρ1 := [.sh q1, .sh q2, .sh q3, .sh q4, .sh l1, .sh l2, .sh sf, .dead]) (by simp [sizeLine, j0, j1, p0, p1, a1, a2, a3, a4])]
  rw [seq_nx (ρ1 := [.sh q1, .sh q2, .sh q3, .sh q4, .sh l1, .sh l2, .sh sf, .sh fo]) (by simp [f1])]
  rw [seq_nx (ρ1 := [.sh q1, .sh q2, .sh q3, .sh q4, .sh l1, .sh l2, .sh sf, .sh fo]) (by simp [a5, s8, f2, s2])]
  simp [f3, o4, o0, o1, o2, f4, o3, sizeLine]
end
/-! ## the drawn points -/
theorem pick {zs : List Int} {r : Int} (h0 : 0 ≤ r) (h1 : r < zs.length) : ∃ z ∈ zs, atI (is zs) r = some (.int z) := ⟨_, List.getElem_mem _, atI_is h0 h1⟩
theorem div_plus (a : Int) {b : Int} (h : b ≠ 0) (j : Nat) : Rat.divInt a b + (j : Rat) = Rat.divInt (a + (j : Int) * b) b := by
  have h0 : (b : Rat) ≠ 0 := by exact_mod_cast h
  rw [di_rat, di_rat]
  push_cast
  grind
theorem v_item_small (ds : List Int) (cell : Int) : ∃ (q : Rat) (ds2 : List Int), (BdR 7 4 q ∧ ∀ j : Nat, j ≤ 5 → BdR 7 4 (q + (j : Rat))) ∧ m__law_item [.ol (is ds), .sh (.int cell), .sh (.bool false)] = some (.sh (Frq q), [.ol (is ds2), .sh (.int cell), .sh (.bool false)]) := by
  have a0 := tk_nn (ns := ds) (n := 3) (by decide)
  have a1 := tk_lt (ns := ds) (n := 3) (by decide)
  by_cases h2 : tk ds 3 < 2
  · have b0 := tk_nn (ns := ds.dropLast) (n := 11) (by decide)
    have b1 := tk_lt (ns := ds.dropLast) (n := 11) (by decide)
    refine ⟨((tk ds.dropLast 11 - 5 : Int) : Rat), ds.dropLast.dropLast, ⟨(br_int (n := 7) (by unfold Bd; omega)).mono (by decide) (by decide), fun j hj => by
      have e : (((tk ds.dropLast 11 - 5 : Int) : Rat) + (j : Rat)) = ((tk ds.dropLast 11 - 5 + (j : Int) : Int) : Rat) := by push_cast; rfl
      rw [e]
      exact (br_int (n := 7) (by unfold Bd; omega)).mono (by decide) (by decide)⟩, ?_⟩
    refine (fn_io (ρ' := [.ol (is ds.dropLast.dropLast), .sh (.int cell), .sh (.bool false), .sh (.int (tk ds 3))]) (c := .sh (Frq ((tk ds.dropLast 11 - 5 : Int) : Rat))) ?_ rfl).trans rfl
    rw [frq_int]
    simp [s__law_item, h2, sizeLine]
  · have b0 := tk_nn (ns := ds.dropLast) (n := 81) (by decide)
    have b1 := tk_lt (ns := ds.dropLast) (n := 81) (by decide)
    have c0 := tk_nn (ns := ds.dropLast.dropLast) (n := 12) (by decide)
    have c1 := tk_lt (ns := ds.dropLast.dropLast) (n := 12) (by decide)
    have bd : Bd 4 (1 + tk ds.dropLast.dropLast 12) := by unfold Bd; omega
    have e := v_frac (a := tk ds.dropLast 81 - 40) (b := 1 + tk ds.dropLast.dropLast 12) (by omega) bd (by decide)
    refine ⟨Rat.divInt (tk ds.dropLast 81 - 40) (1 + tk ds.dropLast.dropLast 12), ds.dropLast.dropLast.dropLast, ⟨bdr_divInt (by unfold Bd; omega) bd (by omega), fun j hj => by
      have hb0 : 1 + tk ds.dropLast.dropLast 12 ≠ 0 := by omega
      rw [div_plus _ hb0]
      refine bdr_divInt ?_ bd (by omega)
      have h5 : j = 0 ∨ j = 1 ∨ j = 2 ∨ j = 3 ∨ j = 4 ∨ j = 5 := by omega
      unfold Bd
      rcases h5 with rfl | rfl | rfl | rfl | rfl | rfl <;> omega⟩, ?_⟩
    refine (fn_io (ρ' := [.ol (is ds.dropLast.dropLast.dropLast), .sh (.int cell), .sh (.bool false), .sh (.int (tk ds 3))]) (c := .sh (Frq (Rat.divInt (tk ds.dropLast 81 - 40) (1 + tk ds.dropLast.dropLast 12)))) ?_ rfl).trans rfl
    simp [s__law_item, h2, sizeLine, e]
theorem v_item_large0 (ds : List Int) (cell : Int) : ∃ (q : Rat) (ds2 : List Int), BdR 31 11 q ∧ m__law_item [.ol (is ds), .sh (.int cell), .sh (.bool true)] = some (.sh (Frq q), [.ol (is ds2), .sh (.int cell), .sh (.bool true)]) := by
  have a0 := tk_nn (ns := ds) (n := 3) (by decide)
  have a1 := tk_lt (ns := ds) (n := 3) (by decide)
  by_cases h0 : tk ds 3 = 0
  · have b0 := tk_nn (ns := ds.dropLast) (n := 1000) (by decide)
    have b1 := tk_lt (ns := ds.dropLast) (n := 1000) (by decide)
    have c0 := tk_nn (ns := ds.dropLast.dropLast) (n := 1000) (by decide)
    have c1 := tk_lt (ns := ds.dropLast.dropLast) (n := 1000) (by decide)
    have d0 := tk_nn (ns := ds.dropLast.dropLast.dropLast) (n := 1000) (by decide)
    have d1 := tk_lt (ns := ds.dropLast.dropLast.dropLast) (n := 1000) (by decide)
    have bd : Bd 11 (1 + 2 * tk ds.dropLast.dropLast.dropLast 1000) := by unfold Bd; omega
    have e := v_frac (a := tk ds.dropLast 1000 * 1000 - 499983 + tk ds.dropLast.dropLast 1000) (b := 1 + 2 * tk ds.dropLast.dropLast.dropLast 1000) (by omega) bd (by decide)
    have m1 : ∀ a : Int, mulOk a 1000 = true := fun a => mulOk_r (by decide)
    have m2 : ∀ a : Int, mulOk 2 a = true := fun a => mulOk_l (by decide)
    refine ⟨Rat.divInt (tk ds.dropLast 1000 * 1000 - 499983 + tk ds.dropLast.dropLast 1000) (1 + 2 * tk ds.dropLast.dropLast.dropLast 1000), ds.dropLast.dropLast.dropLast.dropLast, bdr_divInt (by unfold Bd; omega) bd (by omega), ?_⟩
    refine (fn_io (ρ' := [.ol (is ds.dropLast.dropLast.dropLast.dropLast), .sh (.int cell), .sh (.bool true), .sh (.int (tk ds 3))]) (c := .sh (Frq (Rat.divInt (tk ds.dropLast 1000 * 1000 - 499983 + tk ds.dropLast.dropLast 1000) (1 + 2 * tk ds.dropLast.dropLast.dropLast 1000)))) ?_ rfl).trans rfl
    simp [s__law_item, h0, sizeLine, m1, m2, e]
  · have h0' : (tk ds 3 == 0) = false := by rw [beq_eq_false_iff_ne]; exact h0
    by_cases h1 : tk ds 3 = 1
    · have hp : (10 : Int) ^ 9 = 1000000000 := by decide
      have hp2 : (Builtin.Int.intBits 10 : Int) * 9 ≤ 134217728 := by decide
      obtain ⟨sg, hsg, es⟩ := pick (zs := [1, -1]) (tk_nn (ns := ds.dropLast) (n := 2) (by decide)) (tk_lt (by decide))
      have c0 := Int.fmod_nonneg_of_pos cell (show (0 : Int) < 1000000000 by decide)
      have c1 := Int.fmod_lt_of_pos cell (show (0 : Int) < 1000000000 by decide)
      have hs : sg = 1 ∨ sg = -1 := by simpa using hsg
      have bd : Bd 31 (cell.fmod 1000000000 * sg) := by
        unfold Bd
        rcases hs with rfl | rfl <;> omega
      have m1 : mulOk (cell.fmod 1000000000) sg = true := mulOk_r (by rcases hs with rfl | rfl <;> decide)
      refine ⟨((cell.fmod 1000000000 * sg : Int) : Rat), ds.dropLast.dropLast, (br_int bd).mono (by decide) (by decide), ?_⟩
      refine (fn_io (ρ' := [.ol (is ds.dropLast.dropLast), .sh (.int cell), .sh (.bool true), .sh (.int (tk ds 3))]) (c := .sh (Frq ((cell.fmod 1000000000 * sg : Int) : Rat))) ?_ rfl).trans rfl
      rw [frq_int]
      simp at es
      simp [s__law_item, h1, sizeLine, dPow, hp2, es, m1]
    · have h1' : (tk ds 3 == 1) = false := by rw [beq_eq_false_iff_ne]; exact h1
      have h2 : ¬ tk ds 3 < 2 := by omega
      have b0 := tk_nn (ns := ds.dropLast) (n := 81) (by decide)
      have b1 := tk_lt (ns := ds.dropLast) (n := 81) (by decide)
      have c0 := tk_nn (ns := ds.dropLast.dropLast) (n := 12) (by decide)
      have c1 := tk_lt (ns := ds.dropLast.dropLast) (n := 12) (by decide)
      have bd : Bd 11 (1 + tk ds.dropLast.dropLast 12) := by unfold Bd; omega
      have e := v_frac (a := tk ds.dropLast 81 - 40) (b := 1 + tk ds.dropLast.dropLast 12) (by omega) bd (by decide)
      refine ⟨Rat.divInt (tk ds.dropLast 81 - 40) (1 + tk ds.dropLast.dropLast 12), ds.dropLast.dropLast.dropLast, bdr_divInt (by unfold Bd; omega) bd (by omega), ?_⟩
      refine (fn_io (ρ' := [.ol (is ds.dropLast.dropLast.dropLast), .sh (.int cell), .sh (.bool true), .sh (.int (tk ds 3))]) (c := .sh (Frq (Rat.divInt (tk ds.dropLast 81 - 40) (1 + tk ds.dropLast.dropLast 12)))) ?_ rfl).trans rfl
      simp [s__law_item, h0', h1', h2, sizeLine, e]
/-! ## a point that is none of the others -/
theorem v_item_large (ds : List Int) (cell : Int) : ∃ (q : Rat) (ds2 : List Int), (BdR 31 11 q ∧ ∀ j : Nat, j ≤ 5 → BdR 47 12 (q + (j : Rat))) ∧ m__law_item [.ol (is ds), .sh (.int cell), .sh (.bool true)] = some (.sh (Frq q), [.ol (is ds2), .sh (.int cell), .sh (.bool true)]) := by
  obtain ⟨q, ds2, h, e⟩ := v_item_large0 ds cell
  refine ⟨q, ds2, ⟨h, fun j hj => ?_⟩, e⟩
  have bj : BdR 3 1 ((j : Int) : Rat) := br_int (by unfold Bd; omega)
  have e : ((j : Int) : Rat) = (j : Rat) := by push_cast; rfl
  rw [e] at bj
  exact (bdr_add h bj).mono (by omega) (by omega)
theorem pt_any (x y : Rat) (ps : List (Rat × Rat)) : (ps.map pD).any (fun e => PyData.eqv e (PtD x y)) = decide ((x, y) ∈ ps) := by
  induction ps with
  | nil => rfl
  | cons p r ih =>
    rw [List.map_cons, List.any_cons, ih]
    show (PyData.eqv (PtD p.1 p.2) (PtD x y) || _) = _
    rw [eqv_pt]
    by_cases h : p.1 = x ∧ p.2 = y
    · rw [decide_eq_true h, Bool.true_or, decide_eq_true]
      rw [← h.1, ← h.2]
      exact List.mem_cons_self ..
    · rw [decide_eq_false h, Bool.false_or]
      have : (x, y) ≠ p := fun e => h ⟨(congrArg Prod.fst e).symm, (congrArg Prod.snd e).symm⟩
      by_cases hr : (x, y) ∈ r
      · rw [decide_eq_true hr, decide_eq_true (List.mem_cons_of_mem _ hr)]
      · rw [decide_eq_false hr, decide_eq_false (fun z => by
          rcases List.mem_cons.mp z with z | z
          · exact this z
          · exact hr z)]
theorem pts_ok (ps : List (Rat × Rat)) : PyData.canLayAll0 (ps.map pD) = true ∧ PyData.depthAll (ps.map pD) ≤ 2 := by
  induction ps with
  | nil => exact ⟨rfl, by simp⟩
  | cons p r ih =>
    rw [List.map_cons]
    have h1 : (pD p).canLay0 = true := rfl
    have h2 : (pD p).depth = 2 := rfl
    simp [h1, h2, ih.1, ih.2]
theorem bIn_pts (x y : Rat) (ps : List (Rat × Rat)) : bIn (PtD x y) (.list (ps.map pD)) = some (decide ((x, y) ∈ ps)) := by
  obtain ⟨h1, h2⟩ := pts_ok ps
  have h3 : okD (PtD x y) = true := rfl
  have h4 : okD (.list (ps.map pD)) = true := by
    rw [ev_okD]
    simp [h1]
    omega
  show (if (okD (PtD x y) && okD (.list (ps.map pD))) = true then some ((ps.map pD).any fun z => PyData.eqv z (PtD x y)) else none) = _
  rw [h3, h4, Bool.and_self, if_pos rfl, pt_any]
/-- the others above a height -/
def above (ps : List (Rat × Rat)) (y : Rat) : Nat := (ps.filter fun p => decide (y ≤ p.2)).length
theorem above_lt {ps : List (Rat × Rat)} {x y : Rat} (h : (x, y) ∈ ps) : above ps (y + 1) < above ps y := by
  unfold above
  induction ps with
  | nil => exact absurd h (List.not_mem_nil)
  | cons p r ih =>
    have mono : ∀ l : List (Rat × Rat), (l.filter fun p => decide (y + 1 ≤ p.2)).length ≤ (l.filter fun p => decide (y ≤ p.2)).length := by
      intro l
      induction l with
      | nil => exact Nat.le_refl _
      | cons q s ih2 =>
        by_cases h1 : y + 1 ≤ q.2
        · have h2 : y ≤ q.2 := by grind
          rw [List.filter_cons_of_pos (by simpa using h1), List.filter_cons_of_pos (by simpa using h2), List.length_cons, List.length_cons]
          omega
        · rw [List.filter_cons_of_neg (by simpa using h1)]
          by_cases h2 : y ≤ q.2
          · rw [List.filter_cons_of_pos (by simpa using h2), List.length_cons]; omega
          · rw [List.filter_cons_of_neg (by simpa using h2)]; exact ih2
    rcases List.mem_cons.mp h with e | h
    · have e2 : p.2 = y := by rw [← e]
      have h1 : ¬ y + 1 ≤ p.2 := by rw [e2]; grind
      have h2 : y ≤ p.2 := by rw [e2]; exact Rat.le_refl
      rw [List.filter_cons_of_neg (by simpa using h1), List.filter_cons_of_pos (by simpa using h2), List.length_cons]
      have := mono r
      omega
    · have := ih h
      by_cases h1 : y + 1 ≤ p.2
      · have h2 : y ≤ p.2 := by grind
        rw [List.filter_cons_of_pos (by simpa using h1), List.filter_cons_of_pos (by simpa using h2), List.length_cons, List.length_cons]
        omega
      · rw [List.filter_cons_of_neg (by simpa using h1)]
        by_cases h2 : y ≤ p.2
        · rw [List.filter_cons_of_pos (by simpa using h2), List.length_cons]; omega
        · rw [List.filter_cons_of_neg (by simpa using h2)]; exact this
theorem above_le (ps : List (Rat × Rat)) (y : Rat) : above ps y ≤ ps.length := List.length_filter_le _ _
theorem above_zero {ps : List (Rat × Rat)} {x y : Rat} (h : above ps y = 0) : (x, y) ∉ ps := fun hm => by
  have := above_lt hm
  omega
theorem w_point {ps : List (Rat × Rat)} {ds : List Int} {cell : Int} {big : Bool} {x : Rat} {n d : Nat} (hnd : n + d ≤ 1000) : ∀ (ks : List Nat) (y : Rat) (xs0 : List D) (c : Cell), (∀ j : Nat, j ≤ ks.length → BdR n d (y + (j : Rat))) → above ps y ≤ ks.length →
    ∃ j : Nat, j ≤ ks.length ∧ (x, y + (j : Rat)) ∉ ps ∧ loopF none xs0 [5] (fun e ρ => (gNm 5 e ρ).bind b__law_point_1) (ks.map (fun k : Nat => PyData.int (k : Int))) [.ol (is ds), .sh (.int cell), .sh (.list (ps.map pD)), .sh (.bool big), .sh (PtD x y), c] = some (.nx [.ol (is ds), .sh (.int cell), .sh (.list (ps.map pD)), .sh (.bool big), .sh (PtD x (y + (j : Rat))), .dead]) := by
  intro ks
  have z0 : ∀ y : Rat, y + ((0 : Nat) : Rat) = y := fun y => by
    have : ((0 : Nat) : Rat) = 0 := rfl
    rw [this]; grind
  induction ks with
  | nil =>
    intro y xs0 c hb ha
    have ha : above ps y = 0 := by simpa using ha
    refine ⟨0, Nat.le_refl _, ?_, ?_⟩
    · rw [z0]; exact above_zero ha
    · rw [z0, List.map_nil, loop_nil rfl]
      simp
  | cons k r ih =>
    intro y xs0 c hb ha
    rw [List.length_cons] at hb ha
    have e1 := bIn_pts x y ps
    by_cases hm : (x, y) ∈ ps
    · have hy : BdR n d y := by
        have := hb 0 (by omega)
        rw [z0] at this
        exact this
      have b11 : Frq (1 : Rat) = .tuple [.int 1, .int 1] := rfl
      have e2 := v_ladd hy br_one (by omega) (by omega) (by omega)
      rw [b11] at e2
      rw [decide_eq_true hm] at e1
      have one : (gNm 5 (PyData.int (k : Int)) (killL [5] [.ol (is ds), .sh (.int cell), .sh (.list (ps.map pD)), .sh (.bool big), .sh (PtD x y), c])).bind b__law_point_1 = some (.nx [.ol (is ds), .sh (.int cell), .sh (.list (ps.map pD)), .sh (.bool big), .sh (PtD x (y + 1)), .sh (.int k)]) := by
        have i0 : dIx (PtD x y) (.int 0) = some (Frq x) := rfl
        have i1 : dIx (PtD x y) (.int 1) = some (Frq y) := rfl
        show (gNm 5 (PyData.int (k : Int)) [.ol (is ds), .sh (.int cell), .sh (.list (ps.map pD)), .sh (.bool big), .sh (PtD x y), .dead]).bind b__law_point_1 = _
        unfold PtD at *
        generalize PyData.list (ps.map pD) = lst at *
        generalize PyData.tuple [Frq x, Frq y] = pt at *
        simp [b__law_point_1, e1, i0, i1, e2, sizeLine]
      have hlt := above_lt hm
      have st : ∀ j : Nat, y + 1 + (j : Rat) = y + ((j + 1 : Nat) : Rat) := fun j => by
        have : ((j + 1 : Nat) : Rat) = (j : Rat) + 1 := by push_cast; rfl
        rw [this]; grind
      obtain ⟨j, hj, hn, el⟩ := ih (y + 1) xs0 (.sh (.int k)) (fun j hj => by rw [st]; exact hb (j + 1) (by omega)) (by omega)
      refine ⟨j + 1, by rw [List.length_cons]; omega, by rw [← st]; exact hn, ?_⟩
      rw [List.map_cons, loop_cons rfl one, el, st]
    · rw [decide_eq_false hm] at e1
      have stay : ∀ (k : Nat) (c : Cell), (gNm 5 (PyData.int (k : Int)) (killL [5] [.ol (is ds), .sh (.int cell), .sh (.list (ps.map pD)), .sh (.bool big), .sh (PtD x y), c])).bind b__law_point_1 = some (.nx [.ol (is ds), .sh (.int cell), .sh (.list (ps.map pD)), .sh (.bool big), .sh (PtD x y), .sh (.int k)]) := by
        intro k c
        show (gNm 5 (PyData.int (k : Int)) [.ol (is ds), .sh (.int cell), .sh (.list (ps.map pD)), .sh (.bool big), .sh (PtD x y), .dead]).bind b__law_point_1 = _
        generalize PyData.list (ps.map pD) = lst at *
        generalize PtD x y = pt at *
        simp [b__law_point_1, e1]
      have all : ∀ (l : List Nat) (c : Cell), loopF none xs0 [5] (fun e ρ => (gNm 5 e ρ).bind b__law_point_1) (l.map (fun k : Nat => PyData.int (k : Int))) [.ol (is ds), .sh (.int cell), .sh (.list (ps.map pD)), .sh (.bool big), .sh (PtD x y), c] = some (.nx [.ol (is ds), .sh (.int cell), .sh (.list (ps.map pD)), .sh (.bool big), .sh (PtD x y), .dead]) := by
        intro l
        induction l with
        | nil => intro c; rw [List.map_nil, loop_nil rfl]; rfl
        | cons q s ih2 => intro c; rw [List.map_cons, loop_cons rfl (stay q c), ih2]
      refine ⟨0, Nat.zero_le _, by rw [z0]; exact hm, ?_⟩
      rw [z0]
      exact all (k :: r) c
theorem v_point {cell : Int} {big : Bool} {n d n2 d2 : Nat} (hnd : n2 + d2 ≤ 1000) (item : ∀ ds : List Int, ∃ (q : Rat) (ds2 : List Int), (BdR n d q ∧ ∀ j : Nat, j ≤ 5 → BdR n2 d2 (q + (j : Rat))) ∧ m__law_item [.ol (is ds), .sh (.int cell), .sh (.bool big)] = some (.sh (Frq q), [.ol (is ds2), .sh (.int cell), .sh (.bool big)])) (ds : List Int) (ps : List (Rat × Rat)) (hl : ps.length ≤ 4) (hx : ∀ p ∈ ps, BdR n d p.1) :
    ∃ (x y : Rat) (ds2 : List Int), BdR n d x ∧ BdR n2 d2 y ∧ (x, y) ∉ ps ∧ m__law_point [.ol (is ds), .sh (.int cell), .sh (.list (ps.map pD)), .sh (.bool big)] = some (.sh (PtD x y), [.ol (is ds2), .sh (.int cell), .sh (.list (ps.map pD)), .sh (.bool big)]) := by
  obtain ⟨x0, ds1, ⟨bx, _⟩, e1⟩ := item ds
  obtain ⟨y0, ds2, ⟨_, bY⟩, e2⟩ := item ds1
  -- the first item, its own or that of the first of the others
  obtain ⟨x, bx', e3⟩ : ∃ x, BdR n d x ∧ (sIf (eAnd (eTst (eBin (fun x y => (bEq x y).map .bool) (eRetD (eCall1 0 0 m__law_take (rIo 0 (rCons (eC (.int 4)) (rNil))))) (eC (.int 0)))) (eTst (eBin (fun x y => (bGt x y).map .bool) (eCB cLen (aCons (eVar 2) (aNil))) (eC (.int 0))))) (sSet 4 (eTup (aCons (eBin dIx (eBin dIx (eVar 2) (eC (.int 0))) (eC (.int 0))) (aCons (eBin dIx (eVar 4) (eC (.int 1))) (aNil))))) (sNx)) [.ol (is ds2), .sh (.int cell), .sh (.list (ps.map pD)), .sh (.bool big), .sh (PtD x0 y0), .dead] = some (.nx [.ol (is ds2.dropLast), .sh (.int cell), .sh (.list (ps.map pD)), .sh (.bool big), .sh (PtD x y0), .dead]) := by
    have i1 : dIx (PtD x0 y0) (.int 1) = some (Frq y0) := rfl
    by_cases h0 : tk ds2 4 = 0
    · cases ps with
      | nil =>
        refine ⟨x0, bx, ?_⟩
        generalize PtD x0 y0 = pt at *
        simp [h0]
      | cons p r =>
        have i2 : dIx (pD p) (.int 0) = some (Frq p.1) := rfl
        refine ⟨p.1, hx p (List.mem_cons_self ..), ?_⟩
        have hlen : (0 : Int) < (r.length : Int) + 1 := by omega
        show _ = some (Out.nx [.ol (is ds2.dropLast), .sh (.int cell), .sh (.list ((p :: r).map pD)), .sh (.bool big), .sh (.tuple [Frq p.1, Frq y0]), .dead])
        generalize PtD x0 y0 = pt at *
        rw [List.map_cons]
        generalize pD p = pp at *
        simp [h0, hlen, i1, i2, sizeLine]
    · have h0' : (tk ds2 4 == 0) = false := by rw [beq_eq_false_iff_ne]; exact h0
      refine ⟨x0, bx, ?_⟩
      generalize PtD x0 y0 = pt at *
      generalize PyData.list (ps.map pD) = lst at *
      simp [h0']
  have hb : ∀ j : Nat, j ≤ ps.length + 1 → BdR n2 d2 (y0 + (j : Rat)) := fun j hj => bY j (by omega)
  have ha := above_le ps y0
  obtain ⟨j, hj, hn, el⟩ := w_point (ps := ps) (ds := ds2.dropLast) (cell := cell) (big := big) (x := x) (n := n2) (d := d2) hnd (List.range ((ps.length : Int) + 1).toNat) y0 ((List.range ((ps.length : Int) + 1).toNat).map (fun k : Nat => PyData.int (k : Int))) .dead (fun j hj => hb j (by simp at hj; omega)) (by simp; omega)
  refine ⟨x, y0 + (j : Rat), ds2.dropLast, bx', hb j (by simp at hj; omega), hn, ?_⟩
  have er := ev_r1 (a := aCons (eBin dAddA (eCB cLen (aCons (eVar 2) (aNil))) (eC (.int 1))) (aNil)) (ρ := [.ol (is ds2.dropLast), .sh (.int cell), .sh (.list (ps.map pD)), .sh (.bool big), .sh (PtD x y0), .dead]) (ρ1 := [.ol (is ds2.dropLast), .sh (.int cell), .sh (.list (ps.map pD)), .sh (.bool big), .sh (PtD x y0), .dead]) (n := (ps.length : Int) + 1) (by simp) (by omega) (by omega)
  have el2 : l__law_point_1 [.ol (is ds2.dropLast), .sh (.int cell), .sh (.list (ps.map pD)), .sh (.bool big), .sh (PtD x y0), .dead] = _ := for_nx er el
  refine (fn_io (ρ' := [.ol (is ds2.dropLast), .sh (.int cell), .sh (.list (ps.map pD)), .sh (.bool big), .sh (PtD x (y0 + (j : Rat))), .dead]) (c := .sh (PtD x (y0 + (j : Rat)))) ?_ rfl).trans rfl
  show s__law_point [.ol (is ds), .sh (.int cell), .sh (.list (ps.map pD)), .sh (.bool big), .dead, .dead] = _
  unfold s__law_point
  rw [seq_nx (ρ1 := [.ol (is ds2), .sh (.int cell), .sh (.list (ps.map pD)), .sh (.bool big), .sh (PtD x0 y0), .dead]) (by
    unfold PtD
    generalize PyData.list (ps.map pD) = lst at *
    simp [e1, e2, sizeLine])]
  refine (seq_nx e3).trans ?_
  rw [seq_nx el2]
  rfl
theorem noLs_pts (ps : List (Rat × Rat)) : noLs (ps.map pD) = true := by
  induction ps with
  | nil => rfl
  | cons p r ih =>
    rw [List.map_cons, noLs_cons, ih]
    rfl


theorem beqD_int (z : Int) : beqD (.int z) (.int z) = true := by simp [beqD]
theorem beqD_frq (q : Rat) : beqD (Frq q) (Frq q) = true := by
  unfold Frq
  rw [beqD, beqDs, beqDs, beqDs, beqD_int, beqD_int]
  rfl
theorem beqDs_pts (ps : List (Rat × Rat)) : beqDs (ps.map pD) (ps.map pD) = true := by
  induction ps with
  | nil => rfl
  | cons p r ih =>
    rw [List.map_cons, beqDs, ih]
    have : beqD (pD p) (pD p) = true := by
      show beqD (.tuple [Frq p.1, Frq p.2]) (.tuple [Frq p.1, Frq p.2]) = true
      rw [beqD, beqDs, beqDs, beqDs, beqD_frq, beqD_frq]
      rfl
    rw [this]
    rfl
def Good (n d n2 d2 : Nat) (ps : List (Rat × Rat)) : Prop := (∀ p ∈ ps, BdR n d p.1 ∧ BdR n2 d2 p.2) ∧ ps.Pairwise (fun a b => b ≠ a)
theorem good_snoc {n d n2 d2 : Nat} {ps : List (Rat × Rat)} {x y : Rat} (h : Good n d n2 d2 ps) (hx : BdR n d x) (hy : BdR n2 d2 y) (hn : (x, y) ∉ ps) : Good n d n2 d2 (ps ++ [(x, y)]) := by
  refine ⟨fun p hp => ?_, ?_⟩
  · rcases List.mem_append.mp hp with z | z
    · exact h.1 p z
    · rw [List.mem_singleton.mp z]; exact ⟨hx, hy⟩
  · rw [List.pairwise_append]
    refine ⟨h.2, List.pairwise_singleton _ _, fun a ha b hb' => ?_⟩
    rw [List.mem_singleton.mp hb']
    intro z
    exact hn (by rw [z]; exact ha)
theorem loop1_ok {cell : Int} {ns : List Int} (ds : List Int) : ∃ (ps : List (Rat × Rat)) (ds2 : List Int), ps.length = 4 ∧ Good 31 11 47 12 ps ∧
    l_law_1 [.sh (.list (is ns)), .ol (is ds), .sh (.int (cell)), .ol ([]), .dead, .dead, .dead, .dead, .dead, .dead, .dead, .dead, .dead, .dead, .dead] = some (.nx [.sh (.list (is ns)), .ol (is ds2), .sh (.int (cell)), .ol (ps.map pD), .dead, .dead, .dead, .dead, .dead, .dead, .dead, .dead, .dead, .dead, .dead]) := by
  have lp : ∀ (ks : List Nat) (ps : List (Rat × Rat)) (ds : List Int) (xs0 : List D) (kc : Cell), ps.length + ks.length ≤ 4 → Good 31 11 47 12 ps → ∃ (ps2 : List (Rat × Rat)) (ds2 : List Int), ps2.length = ps.length + ks.length ∧ Good 31 11 47 12 ps2 ∧
      loopF none xs0 [4] (fun x ρ => (gNm 4 x ρ).bind b_law_1) (ks.map (fun k : Nat => PyData.int (k : Int))) [.sh (.list (is ns)), .ol (is ds), .sh (.int (cell)), .ol (ps.map pD), kc, .dead, .dead, .dead, .dead, .dead, .dead, .dead, .dead, .dead, .dead] = some (.nx [.sh (.list (is ns)), .ol (is ds2), .sh (.int (cell)), .ol (ps2.map pD), .dead, .dead, .dead, .dead, .dead, .dead, .dead, .dead, .dead, .dead, .dead]) := by
    intro ks
    induction ks with
    | nil => intro ps ds xs0 kc hl hg; exact ⟨ps, ds, rfl, hg, loop_nil rfl⟩
    | cons k r ih =>
      intro ps ds xs0 kc hl hg
      rw [List.length_cons] at hl
      obtain ⟨x, y, ds3, bx, bY, hn, e⟩ := v_point (by decide) (fun ds => v_item_large ds cell) ds ps (by omega) (fun p hp => (hg.1 p hp).1)
      obtain ⟨ps2, ds2, g1, g2, g3⟩ := ih (ps ++ [(x, y)]) ds3 xs0 (.sh (.int k)) (by rw [List.length_append, List.length_singleton]; omega) (good_snoc hg bx bY hn)
      refine ⟨ps2, ds2, by rw [g1, List.length_append, List.length_singleton, List.length_cons]; omega, g2, ?_⟩
      rw [List.map_cons, loop_cons (ρ' := [.sh (.list (is ns)), .ol (is ds3), .sh (.int (cell)), .ol ((ps ++ [(x, y)]).map pD), .sh (.int (k)), .dead, .dead, .dead, .dead, .dead, .dead, .dead, .dead, .dead, .dead]) rfl ?_, g3]
      have hz : ps.length < 16777216 := by omega
      have h1 := noLs_pts ps
      have hlen : (ps.map pD).length = ps.length := List.length_map _
      rw [List.map_append]
      have hp : List.map pD [(x, y)] = [PtD x y] := rfl
      rw [hp]
      have h2 : noL (PtD x y) = true := rfl
      generalize ps.map pD = lst at *
      generalize PtD x y = pt at *
      simp [b_law_1, e, lAppend, sizeLine, hlen, hz, h1, h2]
  obtain ⟨ps, ds2, g1, g2, g3⟩ := lp (List.range (4 : Int).toNat) [] ds ((List.range (4 : Int).toNat).map (fun k : Nat => PyData.int (k : Int))) .dead (by decide) ⟨fun p hp => absurd hp List.not_mem_nil, List.Pairwise.nil⟩
  exact ⟨ps, ds2, by simpa using g1, g2, for_nx (ev_r1 rfl (by decide) (by decide)) g3⟩
theorem loop2_ok {cell : Int} {ns : List Int} (ls : List (Rat × Rat)) (kc0 : Cell) (ds : List Int) : ∃ (ps : List (Rat × Rat)) (ds2 : List Int), ps.length = 4 ∧ Good 7 4 7 4 ps ∧
    l_law_2 [.sh (.list (is ns)), .ol (is ds), .sh (.int (cell)), .sh (.list (ls.map pD)), kc0, .ol ([]), .dead, .dead, .dead, .dead, .dead, .dead, .dead, .dead, .dead] = some (.nx [.sh (.list (is ns)), .ol (is ds2), .sh (.int (cell)), .sh (.list (ls.map pD)), .dead, .ol (ps.map pD), .dead, .dead, .dead, .dead, .dead, .dead, .dead, .dead, .dead]) := by
  have lp : ∀ (ks : List Nat) (ps : List (Rat × Rat)) (ds : List Int) (xs0 : List D) (kc : Cell), ps.length + ks.length ≤ 4 → Good 7 4 7 4 ps → ∃ (ps2 : List (Rat × Rat)) (ds2 : List Int), ps2.length = ps.length + ks.length ∧ Good 7 4 7 4 ps2 ∧
      loopF none xs0 [4] (fun x ρ => (gNm 4 x ρ).bind b_law_2) (ks.map (fun k : Nat => PyData.int (k : Int))) [.sh (.list (is ns)), .ol (is ds), .sh (.int (cell)), .sh (.list (ls.map pD)), kc, .ol (ps.map pD), .dead, .dead, .dead, .dead, .dead, .dead, .dead, .dead, .dead] = some (.nx [.sh (.list (is ns)), .ol (is ds2), .sh (.int (cell)), .sh (.list (ls.map pD)), .dead, .ol (ps2.map pD), .dead, .dead, .dead, .dead, .dead, .dead, .dead, .dead, .dead]) := by
    intro ks
    induction ks with
    | nil => intro ps ds xs0 kc hl hg; exact ⟨ps, ds, rfl, hg, loop_nil rfl⟩
    | cons k r ih =>
      intro ps ds xs0 kc hl hg
      rw [List.length_cons] at hl
      obtain ⟨x, y, ds3, bx, bY, hn, e⟩ := v_point (by decide) (fun ds => v_item_small ds cell) ds ps (by omega) (fun p hp => (hg.1 p hp).1)
      obtain ⟨ps2, ds2, g1, g2, g3⟩ := ih (ps ++ [(x, y)]) ds3 xs0 (.sh (.int k)) (by rw [List.length_append, List.length_singleton]; omega) (good_snoc hg bx bY hn)
      refine ⟨ps2, ds2, by rw [g1, List.length_append, List.length_singleton, List.length_cons]; omega, g2, ?_⟩
      rw [List.map_cons, loop_cons (ρ' := [.sh (.list (is ns)), .ol (is ds3), .sh (.int (cell)), .sh (.list (ls.map pD)), .sh (.int (k)), .ol ((ps ++ [(x, y)]).map pD), .dead, .dead, .dead, .dead, .dead, .dead, .dead, .dead, .dead]) rfl ?_, g3]
      have hz : ps.length < 16777216 := by omega
      have h1 := noLs_pts ps
      have h3 := beqDs_pts ls
      have hlen : (ps.map pD).length = ps.length := List.length_map _
      rw [List.map_append]
      have hp : List.map pD [(x, y)] = [PtD x y] := rfl
      rw [hp]
      have h2 : noL (PtD x y) = true := rfl
      generalize ls.map pD = lsd at *
      generalize ps.map pD = lst at *
      generalize PtD x y = pt at *
      simp [b_law_2, e, lAppend, sizeLine, hlen, hz, h1, h2, h3]
  obtain ⟨ps, ds2, g1, g2, g3⟩ := lp (List.range (4 : Int).toNat) [] ds ((List.range (4 : Int).toNat).map (fun k : Nat => PyData.int (k : Int))) kc0 (by decide) ⟨fun p hp => absurd hp List.not_mem_nil, List.Pairwise.nil⟩
  exact ⟨ps, ds2, by simpa using g1, g2, for_nx (ev_r1 rfl (by decide) (by decide)) g3⟩


theorem line_of {x y u v : Rat} {n d : Nat} (hp : BdP n d x y) (hq : BdP n d u v) (h : ¬ (x = u ∧ y = v)) : ∃ (A B C : Int) (l : Rat), ThD x y u v = TrD A B C ∧ BdL (2 * n + 10 * d + 2) A B C ∧ Norm A B C ∧ l ≠ 0 ∧ (A : Rat) = l * (v - y) ∧ (B : Rat) = l * (x - u) ∧ (C : Rat) = l * ((v - y) * x + (x - u) * y) := by
  obtain ⟨h1, h2, h3, h4, h5⟩ := nl_spec (c := (v - y) * x + (x - u) * y) (apart h)
  exact ⟨_, _, _, _, rfl, bdl_through hp hq h, h5, h1, h2, h3, h4⟩
theorem fold_of {x y u v : Rat} {n d : Nat} (hp : BdP n d x y) (hq : BdP n d u v) (h : ¬ (x = u ∧ y = v)) : ∃ (A B C : Int) (l : Rat), FoD x y u v = TrD A B C ∧ BdL (2 * n + 13 * d + 6) A B C ∧ l ≠ 0 ∧ (A : Rat) = l * (2 * (u - x)) ∧ (B : Rat) = l * (2 * (v - y)) ∧ (C : Rat) = l * (u * u + v * v - (x * x + y * y)) := by
  obtain ⟨h1, h2, h3, h4, h5⟩ := nl_spec (c := u * u + v * v - (x * x + y * y)) (apart2 h)
  exact ⟨_, _, _, _, rfl, bdl_fo hp hq h, h1, h2, h3, h4⟩
theorem perp_of {A B C : Int} {x y : Rat} {N n d : Nat} (hl : BdL N A B C) (hp : BdP n d x y) (h0 : A ≠ 0 ∨ B ≠ 0) : ∃ (a b c : Int) (l : Rat), SfD A B x y = TrD a b c ∧ BdL (N + n + 3 * d + 5) a b c ∧ l ≠ 0 ∧ (a : Rat) = l * B ∧ (b : Rat) = l * (-(A : Rat)) ∧ (c : Rat) = l * ((B : Rat) * x - (A : Rat) * y) := by
  obtain ⟨h1, h2, h3, h4, h5⟩ := nl_spec (c := (B : Rat) * x - (A : Rat) * y) (apart3 h0)
  have e : (((-A : Int)) : Rat) = -(A : Rat) := by push_cast; rfl
  refine ⟨_, _, _, scl (B : Rat) ((-A : Int) : Rat) ((B : Rat) * x - (A : Rat) * y), rfl, bdl_sf hl hp h0, h1, h2, ?_, h4⟩
  rw [h3, e]
theorem th_turn {x y u v : Rat} (h : ¬ (x = u ∧ y = v)) : ThD u v x y = ThD x y u v := by
  unfold ThD LnD
  obtain ⟨e1, e2, e3⟩ := ln_scale (c := (v - y) * x + (x - u) * y) (a' := y - v) (b' := u - x) (c' := (y - v) * u + (u - x) * v) (l := -1) (apart h) (by decide +kernel) (by grind) (by grind) (by grind)
  rw [e1, e2, e3]
theorem at_on {A B C a b c : Int} (h : crs A B a b ≠ 0) : (A : Rat) * atX A B C a b c + (B : Rat) * atY A B C a b c = (C : Rat) ∧ (a : Rat) * atX A B C a b c + (b : Rat) * atY A B C a b c = (c : Rat) := by
  have h0 : ((crs A B a b : Int) : Rat) ≠ 0 := by exact_mod_cast h
  unfold atX atY
  rw [di_rat, di_rat]
  unfold crs at *
  push_cast at *
  constructor <;> grind
theorem bdp_at {A B C a b c : Int} {N M : Nat} (h : BdL N A B C) (k : BdL M a b c) (h0 : crs A B a b ≠ 0) : BdP (N + M + 1) (N + M + 1) (atX A B C a b c) (atY A B C a b c) :=
  ⟨(bdr_divInt ((h.c.mul k.b).sub (k.c.mul h.b)) (bd_crs h k) h0).mono (by omega) (by omega), (bdr_divInt ((h.a.mul k.c).sub (k.a.mul h.c)) (bd_crs h k) h0).mono (by omega) (by omega)⟩
theorem crs_rat {A B a b : Int} {l m p q r s : Rat} (hA : (A : Rat) = l * p) (hB : (B : Rat) = l * q) (ha : (a : Rat) = m * r) (hb : (b : Rat) = m * s) (hl : l ≠ 0) (hm : m ≠ 0) (hk : p * s - r * q ≠ 0) : crs A B a b ≠ 0 := by
  intro z
  have z2 : ((crs A B a b : Int) : Rat) = 0 := by rw [z]; rfl
  unfold crs at z2
  push_cast at z2
  rw [hA, hB, ha, hb] at z2
  apply hk
  have : l * m * (p * s - r * q) = 0 := by grind
  have hlm : l * m ≠ 0 := by grind
  grind
theorem out_l {l a b c X Y : Rat} (hl : l ≠ 0) (h : l * a * X + l * b * Y = l * c) : a * X + b * Y = c := by
  have : l * (a * X + b * Y - c) = 0 := by grind
  grind
theorem side_zero {A B C : Int} {X Y : Rat} {N n d : Nat} (hl : BdL N A B C) (hp : BdP n d X Y) (h1 : N + n + d ≤ 10000000) (h2 : 2 * d + 3 ≤ 8900) (h : (A : Rat) * X + (B : Rat) * Y = (C : Rat)) : m_side [.sh (TrD A B C), .sh (PtD X Y)] = some (.sh (.int 0), []) := by
  have e := v_side hl hp h1 h2
  have hz : bey A B C X Y = 0 := by unfold bey; grind
  rw [hz] at e
  exact e
section
variable {x y u v z w : Rat}
theorem v_centre (hp : BdP 7 4 x y) (hq : BdP 7 4 u v) (hr : BdP 7 4 z w) (h12 : ¬ (x = u ∧ y = v)) (h23 : ¬ (u = z ∧ v = w)) (h13 : ¬ (x = z ∧ y = w)) (hk : (v - y) * (z - x) + (x - u) * (w - y) ≠ 0) :
    ∃ X Y : Rat, m_meeting [.sh (FoD x y u v), .sh (FoD u v z w)] = some (.sh (PtD X Y), []) ∧ m_side [.sh (FoD x y z w), .sh (PtD X Y)] = some (.sh (.int 0), []) := by
  obtain ⟨A, B, C, l, e1, b1, l0, hA, hB, hC⟩ := fold_of hp hq h12
  obtain ⟨a, b, c, m, e2, b2, m0, ha, hb, hc⟩ := fold_of hq hr h23
  obtain ⟨a', b', c', k, e3, b3, k0, ha', hb', hc'⟩ := fold_of hp hr h13
  have hcr : crs A B a b ≠ 0 := crs_rat hA hB ha hb l0 m0 (by grind)
  have em := v_meeting b1 b2 (by decide)
  unfold MtD at em
  rw [if_neg hcr] at em
  obtain ⟨o1, o2⟩ := at_on (C := C) (c := c) hcr
  have bp := bdp_at b1 b2 hcr
  generalize atX A B C a b c = X at *
  generalize atY A B C a b c = Y at *
  rw [hA, hB, hC] at o1
  rw [ha, hb, hc] at o2
  have q1 := out_l l0 o1
  have q2 := out_l m0 o2
  rw [e1, e2, e3]
  refine ⟨X, Y, em, side_zero b3 bp (by decide) (by decide) ?_⟩
  rw [ha', hb', hc']
  grind
theorem v_height (hp : BdP 7 4 x y) (hq : BdP 7 4 u v) (hr : BdP 7 4 z w) {A B C A' B' C' A2 B2 C2 : Int} {l m k : Rat} (b1 : BdL 56 A B C) (b2 : BdL 56 A' B' C') (b3 : BdL 56 A2 B2 C2)
    (n1 : A ≠ 0 ∨ B ≠ 0) (n2 : A' ≠ 0 ∨ B' ≠ 0) (n3 : A2 ≠ 0 ∨ B2 ≠ 0) (l0 : l ≠ 0) (m0 : m ≠ 0) (k0 : k ≠ 0)
    (hA : (A : Rat) = l * (v - y)) (hB : (B : Rat) = l * (x - u)) (hA' : (A' : Rat) = m * (w - v)) (hB' : (B' : Rat) = m * (u - z)) (hA2 : (A2 : Rat) = k * (w - y)) (hB2 : (B2 : Rat) = k * (x - z)) (hk : (v - y) * (z - x) + (x - u) * (w - y) ≠ 0) :
    ∃ X Y : Rat, m_meeting [.sh (SfD A B z w), .sh (SfD A' B' x y)] = some (.sh (PtD X Y), []) ∧ m_side [.sh (SfD A2 B2 u v), .sh (PtD X Y)] = some (.sh (.int 0), []) := by
  obtain ⟨a1, a2, a3, s, e1, c1, s0, f1, f2, f3⟩ := perp_of b1 hr n1
  obtain ⟨d1, d2, d3, t, e2, c2, t0, g1, g2, g3⟩ := perp_of b2 hp n2
  obtain ⟨i1, i2, i3, r, e3, c3, r0, j1, j2, j3⟩ := perp_of b3 hq n3
  have hcr : crs a1 a2 d1 d2 ≠ 0 := crs_rat f1 f2 g1 g2 s0 t0 (by
    rw [hA, hB, hA', hB']
    have e : l * (x - u) * -(m * (w - v)) - m * (u - z) * -(l * (v - y)) = l * m * -((v - y) * (z - x) + (x - u) * (w - y)) := by grind
    rw [e]
    have hlm : l * m ≠ 0 := by grind
    grind)
  have em := v_meeting c1 c2 (by decide)
  unfold MtD at em
  rw [if_neg hcr] at em
  obtain ⟨o1, o2⟩ := at_on (C := a3) (c := d3) hcr
  have bp := bdp_at c1 c2 hcr
  generalize atX a1 a2 a3 d1 d2 d3 = X at *
  generalize atY a1 a2 a3 d1 d2 d3 = Y at *
  rw [f1, f2, f3] at o1
  rw [g1, g2, g3] at o2
  have q1 := out_l s0 o1
  have q2 := out_l t0 o2
  rw [hA, hB] at q1
  rw [hA', hB'] at q2
  have p1 : (x - u) * X + -(v - y) * Y = (x - u) * z - (v - y) * w := out_l l0 (by grind)
  have p2 : (u - z) * X + -(w - v) * Y = (u - z) * x - (w - v) * y := out_l m0 (by grind)
  rw [e1, e2, e3]
  refine ⟨X, Y, em, side_zero c3 bp (by decide) (by decide) ?_⟩
  rw [j1, j2, j3, hA2, hB2]
  grind
end


theorem plain : ∀ ns : List Int, ns.length ≤ 63 → (∀ z ∈ ns, Builtin.Int.intBits z ≤ 1048576) → ∃ z, m_law [.sh (.list (ns.map .int))] = some (.sh (.bool true), z) := by
  intro ns hl _
  obtain ⟨ds, e1⟩ := v_draws ns 160 hl (by decide) (by decide)
  obtain ⟨c, ds2, _, _, e2⟩ := v_cell ns ds hl
  obtain ⟨ls, ds3, hls, gls, e3⟩ := loop1_ok (cell := c) (ns := ns) ds2
  obtain ⟨ps, ds4, hps, gps, e4⟩ := loop2_ok (cell := c) (ns := ns) ls .dead ds3
  match ls, hls, gls, e3, e4 with
  | [(g1, g2), (g3, g4), (g5, g6), (g7, g8)], _, gls, e3, e4 =>
  match ps, hps, gps, e4 with
  | [(x, y), (u, v), (z, w), (p, q)], _, gps, e4 =>
  have big : ∀ a b, (a, b) ∈ [(g1, g2), (g3, g4), (g5, g6), (g7, g8)] → BdP 47 12 a b := fun a b h => ⟨(gls.1 _ h).1.mono (by decide) (by decide), (gls.1 _ h).2⟩
  have f1 := v_law_large (big g1 g2 (by simp)) (big g3 g4 (by simp)) (big g5 g6 (by simp)) (big g7 g8 (by simp)) (by
    have := gls.2
    simp only [List.pairwise_cons] at this
    intro ⟨a, b⟩
    exact this.1 (g3, g4) (by simp) (by rw [a, b])) (by
    have := gls.2
    simp only [List.pairwise_cons] at this
    intro ⟨a, b⟩
    exact this.2.2.1 (g7, g8) (by simp) (by rw [a, b])) (by decide)
  have sm : ∀ a b, (a, b) ∈ [(x, y), (u, v), (z, w), (p, q)] → BdP 7 4 a b := fun a b h => ⟨(gps.1 _ h).1, (gps.1 _ h).2⟩
  have hpw := gps.2
  simp only [List.pairwise_cons] at hpw
  have hp := sm x y (by simp)
  have hq := sm u v (by simp)
  have hr := sm z w (by simp)
  have ht := sm p q (by simp)
  have h12 : ¬ (x = u ∧ y = v) := fun ⟨a, b⟩ => hpw.1 (u, v) (by simp) (by rw [a, b])
  have h13 : ¬ (x = z ∧ y = w) := fun ⟨a, b⟩ => hpw.1 (z, w) (by simp) (by rw [a, b])
  have h23 : ¬ (u = z ∧ v = w) := fun ⟨a, b⟩ => hpw.2.1 (z, w) (by simp) (by rw [a, b])
  have h34 : ¬ (z = p ∧ w = q) := fun ⟨a, b⟩ => hpw.2.2.1 (p, q) (by simp) (by rw [a, b])
  have on4 : ∀ p' ∈ [(x, y), (u, v), (z, w), (p, q)], BdP 7 4 p'.1 p'.2 := fun p' h => sm p'.1 p'.2 h
  clear gls gps hpw sm big
  obtain ⟨A, B, C, l, t1, b1, n1, l0, hA, hB, hC⟩ := line_of hp hq h12
  obtain ⟨a, b, c', m, t2, b2, n2, m0, ha, hb, hc⟩ := line_of hr ht h34
  obtain ⟨a', b', c'', k, t3, b3, n3, k0, ha', hb', hc'⟩ := line_of hq hr h23
  obtain ⟨a2, b2', c2, k2, t4, b4, n4, k20, ha2, hb2, hc2⟩ := line_of hp hr h13
  have o1 := norm_or n1
  have o2 := norm_or n2
  have th1 := v_lthrough hp hq h12 (by decide)
  have th2 := v_lthrough hr ht h34 (by decide)
  have th3 := v_lthrough hq hr h23 (by decide)
  have th4 := v_lthrough hp hr h13 (by decide)
  have tp1 := v_through hp hq h12 (by decide)
  have tp2 := v_through ht hr (fun ⟨a, b⟩ => h34 ⟨a.symm, b.symm⟩) (by decide)
  rw [th_turn h34, t2] at tp2
  rw [t1] at th1 tp1
  rw [t2] at th2
  rw [t3] at th3
  rw [t4] at th4
  have on := v_law_on [(x, y), (u, v), (z, w), (p, q)] b1 o1 on4 (by decide) (by decide)
  have on2 := v_law_on [(z, w), (p, q)] b1 o1 (fun p' h => on4 p' (List.mem_cons_of_mem _ (List.mem_cons_of_mem _ h))) (by decide) (by decide)
  have li1 := v_law_lines b1 o1 n2 b2 hr ht m0 ha hb hc (by decide) (by decide) (by decide) (by decide)
  have li2 := v_law_lines b2 o2 n1 b1 hp hq l0 hA hB hC (by decide) (by decide) (by decide) (by decide)
  have li4 := v_law_lines b1 o1 n1 b1 hp hq l0 hA hB hC (by decide) (by decide) (by decide) (by decide)
  -- the parallel
  have bA : BdR 56 1 (A : Rat) := br_int b1.a
  have bB : BdR 56 1 (B : Rat) := br_int b1.b
  have r1 := v_lless hr.x bB (by decide) (by decide) (by decide)
  have r2 := v_ladd hr.y bA (by decide) (by decide) (by decide)
  rw [frq_int] at r1 r2
  have hz' : BdP 61 5 z w := ⟨hr.x.mono (by decide) (by decide), hr.y.mono (by decide) (by decide)⟩
  have hs : BdP 61 5 (z - (B : Rat)) (w + (A : Rat)) := ⟨(bdr_sub hr.x bB).mono (by decide) (by decide), (bdr_add hr.y bA).mono (by decide) (by decide)⟩
  have hne : ¬ (z = z - (B : Rat) ∧ w = w + (A : Rat)) := by
    rintro ⟨s1, s2⟩
    have s1 : (B : Rat) = 0 := by grind
    have s2 : (A : Rat) = 0 := by grind
    have s1 : B = 0 := by exact_mod_cast s1
    have s2 : A = 0 := by exact_mod_cast s2
    omega
  have th5 := v_lthrough hz' hs hne (by decide)
  have e5 : ThD z w (z - (B : Rat)) (w + (A : Rat)) = LnD (A : Rat) (B : Rat) ((A : Rat) * z + (B : Rat) * w) := by
    unfold ThD
    rw [show w + (A : Rat) - w = (A : Rat) by grind, show z - (z - (B : Rat)) = (B : Rat) by grind]
  have ap : (A : Rat) ≠ 0 ∨ (B : Rat) ≠ 0 := by
    rcases o1 with h | h
    · left; exact_mod_cast h
    · right; exact_mod_cast h
  have b5 : BdL 71 (nA (A : Rat) (B : Rat) ((A : Rat) * z + (B : Rat) * w)) (nB (A : Rat) (B : Rat) ((A : Rat) * z + (B : Rat) * w)) (nC (A : Rat) (B : Rat) ((A : Rat) * z + (B : Rat) * w)) :=
    bdl_ln ap bA bB ((bdr_add (bdr_mul bA hr.x) (bdr_mul bB hr.y)).mono (m := 69) (e := 10) (by decide) (by decide)) (by decide) (by decide) (by decide)
  obtain ⟨s0, sa, sb, sc, sn⟩ := nl_spec (c := (A : Rat) * z + (B : Rat) * w) ap
  rw [e5] at th5
  have tr : LnD (A : Rat) (B : Rat) ((A : Rat) * z + (B : Rat) * w) = TrD _ _ _ := rfl
  rw [tr] at th5
  clear tr e5
  generalize nA (A : Rat) (B : Rat) ((A : Rat) * z + (B : Rat) * w) = A5 at *
  generalize nB (A : Rat) (B : Rat) ((A : Rat) * z + (B : Rat) * w) = B5 at *
  generalize nC (A : Rat) (B : Rat) ((A : Rat) * z + (B : Rat) * w) = C5 at *
  generalize scl (A : Rat) (B : Rat) ((A : Rat) * z + (B : Rat) * w) = s at *
  have li3 := v_law_lines b1 o1 sn b5 hz' hs s0 (by rw [sa]; grind) (by rw [sb]; grind) (by rw [sc]; grind) (by decide) (by decide) (by decide) (by decide)
  -- folds, squares
  have fo := v_law_folds hp hq hr h12 (by decide)
  have sq1 := v_law_square n1 b1 hr (by decide) (by decide)
  have sq2 := v_law_square n2 b2 hp (by decide) (by decide)
  have sq3 := v_law_square n1 b1 hp (by decide) (by decide)
  have be := v_lbeyond b1 hr (by decide) (by decide)
  have hbe : bey A B C z w = l * ((v - y) * (z - x) + (x - u) * (w - y)) := by
    unfold bey
    rw [hA, hB, hC]
    grind
  have nz := num_zero (bey A B C z w)
  have po1 := v_point_on_point hp hq h12 (by decide)
  have po2 := v_point_on_point hq hr h23 (by decide)
  have po3 := v_point_on_point hp hr h13 (by decide)
  have ls1 := v_line_on_itself b1 hr o1 (by decide)
  have ls2 := v_line_on_itself b3 hp (norm_or n3) (by decide)
  have ls3 := v_line_on_itself b4 hq (norm_or n4) (by decide)
  -- the constants
  have k1 : m_line_through [.sh (.tuple [.tuple [.int 0, .int 1], .tuple [.int 1, .int 2]]), .sh (.tuple [.tuple [.int 1, .int 3], .tuple [.int 0, .int 1]])] = some (.sh (.tuple [.int 3, .int 2, .int 1]), []) := by
    have c0 : BdR 2 2 0 := ⟨by show (0 : Nat) < 2 ^ 2; decide, by show (1 : Nat) < 2 ^ 2; decide⟩
    have c1 : BdR 2 2 (1 / 2) := ⟨by show (1 / 2 : Rat).num.natAbs < 2 ^ 2; decide +kernel, by show (1 / 2 : Rat).den < 2 ^ 2; decide +kernel⟩
    have c2 : BdR 2 2 (1 / 3) := ⟨by show (1 / 3 : Rat).num.natAbs < 2 ^ 2; decide +kernel, by show (1 / 3 : Rat).den < 2 ^ 2; decide +kernel⟩
    have e := v_through (x := 0) (y := 1 / 2) (u := 1 / 3) (v := 0) ⟨c0, c1⟩ ⟨c2, c0⟩ (by decide +kernel) (by decide)
    have e2 : ThD 0 (1 / 2) (1 / 3) 0 = TrD 3 2 1 := ln_tr (l := -1 / 6) (by unfold Norm; decide) (by decide +kernel) (by decide +kernel) (by decide +kernel) (by decide +kernel)
    rw [e2] at e
    have e3 : PtD 0 (1 / 2) = .tuple [.tuple [.int 0, .int 1], .tuple [.int 1, .int 2]] := by
      unfold PtD Frq
      rw [show (1 / 2 : Rat).num = 1 by decide +kernel, show (1 / 2 : Rat).den = 2 by decide +kernel]
      rfl
    have e4 : PtD (1 / 3) 0 = .tuple [.tuple [.int 1, .int 3], .tuple [.int 0, .int 1]] := by
      unfold PtD Frq
      rw [show (1 / 3 : Rat).num = 1 by decide +kernel, show (1 / 3 : Rat).den = 3 by decide +kernel]
      rfl
    rw [e3, e4] at e
    exact e
  have k2 : m_meeting [.sh (.tuple [.int 1, .int 2, .int 3]), .sh (.tuple [.int 1, .int 2, .int 4])] = some (.sh .none, []) := by
    have e := v_meeting (N := 3) (M := 3) (A := 1) (B := 2) (C := 3) (a := 1) (b := 2) (c := 4) ⟨by show (1 : Nat) < 2 ^ 3; decide, by show (2 : Nat) < 2 ^ 3; decide, by show (3 : Nat) < 2 ^ 3; decide⟩ ⟨by show (1 : Nat) < 2 ^ 3; decide, by show (2 : Nat) < 2 ^ 3; decide, by show (4 : Nat) < 2 ^ 3; decide⟩ (by decide)
    exact e
  have k3 : m_mirror_point [.sh (.tuple [.int 0, .int 1, .int 0]), .sh (.tuple [.tuple [.int 1, .int 2], .tuple [.int 3, .int 4]])] = some (.sh (.tuple [.tuple [.int 1, .int 2], .tuple [.int (-3), .int 4]]), []) := by
    have c1 : BdR 3 3 (1 / 2) := ⟨by show (1 / 2 : Rat).num.natAbs < 2 ^ 3; decide +kernel, by show (1 / 2 : Rat).den < 2 ^ 3; decide +kernel⟩
    have c2 : BdR 3 3 (3 / 4) := ⟨by show (3 / 4 : Rat).num.natAbs < 2 ^ 3; decide +kernel, by show (3 / 4 : Rat).den < 2 ^ 3; decide +kernel⟩
    have e := v_mirror_point (N := 2) (A := 0) (B := 1) (C := 0) ⟨by show (0 : Nat) < 2 ^ 2; decide, by show (1 : Nat) < 2 ^ 2; decide, by show (0 : Nat) < 2 ^ 2; decide⟩ ⟨c1, c2⟩ (by decide) (by decide) (by decide)
    have e3 : PtD (1 / 2) (3 / 4) = .tuple [.tuple [.int 1, .int 2], .tuple [.int 3, .int 4]] := by
      unfold PtD Frq
      rw [show (1 / 2 : Rat).num = 1 by decide +kernel, show (1 / 2 : Rat).den = 2 by decide +kernel, show (3 / 4 : Rat).num = 3 by decide +kernel, show (3 / 4 : Rat).den = 4 by decide +kernel]
      rfl
    have e4 : PtD (mx 0 1 0 (1 / 2) (3 / 4)) (my 0 1 0 (1 / 2) (3 / 4)) = .tuple [.tuple [.int 1, .int 2], .tuple [.int (-3), .int 4]] := by
      unfold PtD Frq
      rw [show mx 0 1 0 (1 / 2) (3 / 4) = 1 / 2 by decide +kernel, show my 0 1 0 (1 / 2) (3 / 4) = -3 / 4 by decide +kernel, show (1 / 2 : Rat).num = 1 by decide +kernel, show (1 / 2 : Rat).den = 2 by decide +kernel, show (-3 / 4 : Rat).num = -3 by decide +kernel, show (-3 / 4 : Rat).den = 4 by decide +kernel]
      rfl
    rw [e3, e4] at e
    exact e
  have E3 : l_law_1 [.sh (.list (is ns)), .ol (is ds2), .sh (.int (c)), .ol ([]), .dead, .dead, .dead, .dead, .dead, .dead, .dead, .dead, .dead, .dead, .dead] = some (.nx [.sh (.list (is ns)), .ol (is ds3), .sh (.int (c)), .ol ([PtD g1 g2, PtD g3 g4, PtD g5 g6, PtD g7 g8]), .dead, .dead, .dead, .dead, .dead, .dead, .dead, .dead, .dead, .dead, .dead]) := e3
  have E4 : l_law_2 [.sh (.list (is ns)), .ol (is ds3), .sh (.int (c)), .sh (.list ([PtD g1 g2, PtD g3 g4, PtD g5 g6, PtD g7 g8])), .dead, .ol ([]), .dead, .dead, .dead, .dead, .dead, .dead, .dead, .dead, .dead] = some (.nx [.sh (.list (is ns)), .ol (is ds4), .sh (.int (c)), .sh (.list ([PtD g1 g2, PtD g3 g4, PtD g5 g6, PtD g7 g8])), .dead, .ol ([PtD x y, PtD u v, PtD z w, PtD p q]), .dead, .dead, .dead, .dead, .dead, .dead, .dead, .dead, .dead]) := e4
  have on : m__law_on [.sh (TrD A B C), .sh (.list [PtD x y, PtD u v, PtD z w, PtD p q])] = _ := on
  have on2 : m__law_on [.sh (TrD A B C), .sh (.list [PtD z w, PtD p q])] = _ := on2
  have ce : ∀ h : bey A B C z w ≠ 0, ∃ X Y X' Y' : Rat, m_meeting [.sh (FoD x y u v), .sh (FoD u v z w)] = some (.sh (PtD X Y), []) ∧ m_side [.sh (FoD x y z w), .sh (PtD X Y)] = some (.sh (.int 0), []) ∧
      m_meeting [.sh (SfD A B z w), .sh (SfD a' b' x y)] = some (.sh (PtD X' Y'), []) ∧ m_side [.sh (SfD a2 b2' u v), .sh (PtD X' Y')] = some (.sh (.int 0), []) := by
    intro h
    have hk : (v - y) * (z - x) + (x - u) * (w - y) ≠ 0 := by
      intro z0
      rw [z0] at hbe
      exact h (by rw [hbe]; grind)
    obtain ⟨X, Y, u1, u2⟩ := v_centre hp hq hr h12 h23 h13 hk
    obtain ⟨X', Y', u3, u4⟩ := v_height hp hq hr b1 b3 b4 o1 (norm_or n3) (norm_or n4) l0 k0 k20 hA hB ha' hb' ha2 hb2 hk
    exact ⟨X, Y, X', Y', u1, u2, u3, u4⟩
  have cut : cutD [PtD x y, PtD u v, PtD z w, PtD p q] (some 2) none = [PtD z w, PtD p q] := rfl
  have i0 : dIx (PtD z w) (.int 0) = some (Frq z) := rfl
  have i1 : dIx (PtD z w) (.int 1) = some (Frq w) := rfl
  have i2 : dIx (TrD A B C) (.int 0) = some (.int A) := rfl
  have i3 : dIx (TrD A B C) (.int 1) = some (.int B) := rfl
  have i4 : dIx (Frq (bey A B C z w)) (.int 0) = some (.int (bey A B C z w).num) := rfl
  have i5 : dIx (.tuple [PtD z w, PtD (z - (B : Rat)) (w + (A : Rat))]) (.int 0) = some (PtD z w) := rfl
  have i6 : dIx (.tuple [PtD z w, PtD (z - (B : Rat)) (w + (A : Rat))]) (.int 1) = some (PtD (z - (B : Rat)) (w + (A : Rat))) := rfl
  have mk : PyData.tuple [Frq (z - (B : Rat)), Frq (w + (A : Rat))] = PtD (z - (B : Rat)) (w + (A : Rat)) := rfl
  have sL : ∀ A B C : Int, m__law_same 12 [.sh (TrD A B C), .sh (TrD A B C)] = some (.sh (.bool true), []) := fun A B C => v_same 11 _ (by unfold TrD; simp [sok, soks])
  have s3 : m__law_same 12 [.sh (.tuple [.int 3, .int 2, .int 1]), .sh (.tuple [.int 3, .int 2, .int 1])] = some (.sh (.bool true), []) := sL 3 2 1
  have s4 : m__law_same 12 [.sh (.tuple [.tuple [.int 1, .int 2], .tuple [.int (-3), .int 4]]), .sh (.tuple [.tuple [.int 1, .int 2], .tuple [.int (-3), .int 4]])] = some (.sh (.bool true), []) := v_same 11 _ (by simp [sok, soks])
  have sI := sameI 0
  clear gls gps e3 e4 hA hB hC ha hb hc ha' hb' hc' ha2 hb2 hc2
  by_cases hz : bey A B C z w = 0
  · skip
    have nz : ((bey A B C z w).num == 0) = true := by rw [nz]; exact decide_eq_true hz
    exact ⟨[], fn_ret (by
      show s_law [.sh (.list (is ns)), .dead, .dead, .dead, .dead, .dead, .dead, .dead, .dead, .dead, .dead, .dead, .dead, .dead, .dead] = _
      refine (seq_nx (by first | (simp [e1]; done) | (simp [e1]; rfl))).trans ?_
      refine (seq_nx (by first | (simp [e2]; done) | (simp [e2]; rfl))).trans ?_
      refine (seq_nx (by first | (simp [sizeLine]; done) | (simp [sizeLine]; rfl))).trans ?_
      refine (seq_nx E3).trans ?_
      refine (seq_nx (by first | (simp [f1]; done) | (simp [f1]; rfl))).trans ?_
      refine (seq_nx (by first | (simp [sizeLine]; done) | (simp [sizeLine]; rfl))).trans ?_
      refine (seq_nx E4).trans ?_
      refine (seq_nx (by first | (simp []; done) | (simp []; rfl))).trans ?_
      refine (seq_nx (by first | (simp [th1]; done) | (simp [th1]; rfl))).trans ?_
      refine (seq_nx (by first | (simp [th2]; done) | (simp [th2]; rfl))).trans ?_
      refine (seq_nx (by first | (simp [tp1, tp2, sL]; done) | (simp [tp1, tp2, sL]; rfl))).trans ?_
      refine (seq_nx (by first | (simp [on, li1, li2, sizeLine]; done) | (simp [on, li1, li2, sizeLine]; rfl))).trans ?_
      refine (seq_nx (by first | (simp [i0, i1, i2, i3, r1, r2, sizeLine, mk]; done) | (simp [i0, i1, i2, i3, r1, r2, sizeLine, mk]; rfl))).trans ?_
      refine (seq_nx (by first | (simp [i5, i6, th5, li3, li4, sizeLine]; done) | (simp [i5, i6, th5, li3, li4, sizeLine]; rfl))).trans ?_
      refine (seq_nx (by first | (simp [fo, sq1, sq2, sq3]; done) | (simp [fo, sq1, sq2, sq3]; rfl))).trans ?_
      refine (seq_nx (by first | (simp [be, i4, nz]; done) | (simp [be, i4, nz]; rfl))).trans ?_
      refine (seq_nx (by first | (simp [k1, k2, s3, sizeLine]; done) | (simp [k1, k2, s3, sizeLine]; rfl))).trans ?_
      simp [k3, s4, on2, cut, sizeLine]
      rfl)⟩
  · skip
    obtain ⟨X, Y, X', Y', u1, u2, u3, u4⟩ := ce hz
    have nz : ((bey A B C z w).num == 0) = false := by rw [nz]; exact decide_eq_false hz
    have ip : isNone (PtD X Y) = false := rfl
    have iq : isNone (PtD X' Y') = false := rfl
    exact ⟨[], fn_ret (by
      show s_law [.sh (.list (is ns)), .dead, .dead, .dead, .dead, .dead, .dead, .dead, .dead, .dead, .dead, .dead, .dead, .dead, .dead] = _
      refine (seq_nx (by first | (simp [e1]; done) | (simp [e1]; rfl))).trans ?_
      refine (seq_nx (by first | (simp [e2]; done) | (simp [e2]; rfl))).trans ?_
      refine (seq_nx (by first | (simp [sizeLine]; done) | (simp [sizeLine]; rfl))).trans ?_
      refine (seq_nx E3).trans ?_
      refine (seq_nx (by first | (simp [f1]; done) | (simp [f1]; rfl))).trans ?_
      refine (seq_nx (by first | (simp [sizeLine]; done) | (simp [sizeLine]; rfl))).trans ?_
      refine (seq_nx E4).trans ?_
      refine (seq_nx (by first | (simp []; done) | (simp []; rfl))).trans ?_
      refine (seq_nx (by first | (simp [th1]; done) | (simp [th1]; rfl))).trans ?_
      refine (seq_nx (by first | (simp [th2]; done) | (simp [th2]; rfl))).trans ?_
      refine (seq_nx (by first | (simp [tp1, tp2, sL]; done) | (simp [tp1, tp2, sL]; rfl))).trans ?_
      refine (seq_nx (by first | (simp [on, li1, li2, sizeLine]; done) | (simp [on, li1, li2, sizeLine]; rfl))).trans ?_
      refine (seq_nx (by first | (simp [i0, i1, i2, i3, r1, r2, sizeLine, mk]; done) | (simp [i0, i1, i2, i3, r1, r2, sizeLine, mk]; rfl))).trans ?_
      refine (seq_nx (by first | (simp [i5, i6, th5, li3, li4, sizeLine]; done) | (simp [i5, i6, th5, li3, li4, sizeLine]; rfl))).trans ?_
      refine (seq_nx (by first | (simp [fo, sq1, sq2, sq3]; done) | (simp [fo, sq1, sq2, sq3]; rfl))).trans ?_
      refine (seq_nx (by first | (simp [be, i4, nz, po1, po2, po3, ls1, ls2, ls3, th3, th4, u1, u2, u3, u4, ip, iq, sI]; done) | (simp [be, i4, nz, po1, po2, po3, ls1, ls2, ls3, th3, th4, u1, u2, u3, u4, ip, iq, sI]; rfl))).trans ?_
      refine (seq_nx (by first | (simp [k1, k2, s3, sizeLine]; done) | (simp [k1, k2, s3, sizeLine]; rfl))).trans ?_
      simp [k3, s4, on2, cut, sizeLine]
      rfl)⟩


end L2.G
open PySem PySem.W PyProof.Rows
set_option maxHeartbeats 0 in
theorem PySem.Challenge.cw_paperkeep_k90_whole_folds_of_points_and_holds : PySem.Challenge.rw_paperkeep_k90_whole_folds_of_points_and.Holds := by
  w_on; o_law; k_head; (case hw => w_witness2)
  k_fill
  refine L2.walk_ofB (l := PySem.Challenge.rw_paperkeep_k90_whole_folds_of_points_and) (n := 63) (k := 14) (x := "script") (CX := fun _ => L2.CX0) (sp := fun w vs H Q E => vs.length = ["script"].length ∧ L2.Pd.spD _ [] L2.G.m_law vs H Q E) rfl (by decide) rfl ⟨rfl, by decide, by decide⟩ (fun w h Y => PySem.W.kIn_of Y) ?F (fun _ _ a ns hl hb _ hS => L2.Pd.law_sp hS (L2.G.plain ns hl hb)) (fun _ _ _ _ _ h => h)
  case F =>
    intro w mg fa h KX G hmg
    refine' L2.G.all_mk KX G hmg ?a0 ?l0 ?c0 ?k0 ?a1 ?l1 ?c1 ?k1 ?a2 ?l2 ?c2 ?k2 ?a3 ?l3 ?c3 ?k3 ?a4 ?l4 ?c4 ?k4 ?a5 ?l5 ?c5 ?k5 ?a6 ?l6 ?c6 ?k6 ?a7 ?l7 ?c7 ?k7 ?a8 ?l8 ?c8 ?k8 ?a9 ?l9 ?c9 ?k9 ?a10 ?l10 ?c10 ?k10 ?a11 ?l11 ?c11 ?k11 ?a12 ?l12 ?c12 ?k12 ?a13 ?l13 ?c13 ?k13 ?a14 ?l14 ?c14 ?k14 ?a15 ?l15 ?c15 ?k15 ?a16 ?l16 ?c16 ?k16 ?a17 ?l17 ?c17 ?k17 ?a18 ?l18 ?c18 ?k18 ?a19 ?l19 ?c19 ?k19 ?a20 ?l20 ?c20 ?k20 ?a21 ?l21 ?c21 ?k21 ?a22 ?l22 ?c22 ?k22 ?a23 ?l23 ?c23 ?k23 ?a24 ?l24 ?c24 ?k24 ?a25 ?l25 ?c25 ?k25 ?a26 ?l26 ?c26 ?k26 ?a27 ?l27 ?c27 ?k27 ?a28 ?l28 ?c28 ?k28 ?a29 ?l29 ?c29 ?k29 ?a30 ?l30 ?c30 ?k30 ?a31 ?l31 ?c31 ?k31 ?a32 ?l32 ?c32 ?k32 ?a33 ?l33 ?c33 ?k33 ?a34 ?l34 ?c34 ?k34 ?a35 ?l35 ?c35 ?k35 ?a36 ?l36 ?c36 ?k36 ?a37 ?l37 ?c37 ?k37 ?a38 ?l38 ?c38 ?k38 ?a39 ?l39 ?c39 ?k39 ?a40 ?l40 ?c40 ?k40 ?z_abs ?z_bool ?z_int ?z_isinstance ?z_len ?z_list ?z_range ?z_str ?z_tuple
    (case a0 => k_is); (case l0 => k_is); (case c0 => k_is); (case k0 => k_is); (case a1 => k_is); (case l1 => k_is); (case c1 => k_is); (case k1 => k_is); (case a2 => k_is); (case l2 => k_is); (case c2 => k_is); (case k2 => k_is); (case a3 => k_is); (case l3 => k_is); (case c3 => k_is); (case k3 => k_is); (case a4 => k_is); (case l4 => k_is); (case c4 => k_is); (case k4 => k_is); (case a5 => k_is); (case l5 => k_is); (case c5 => k_is); (case k5 => k_is); (case a6 => k_is); (case l6 => k_is); (case c6 => k_is); (case k6 => k_is); (case a7 => k_is); (case l7 => k_is); (case c7 => k_is); (case k7 => k_is); (case a8 => k_is); (case l8 => k_is); (case c8 => k_is); (case k8 => k_is); (case a9 => k_is); (case l9 => k_is); (case c9 => k_is); (case k9 => k_is); (case a10 => k_is); (case l10 => k_is); (case c10 => k_is); (case k10 => k_is); (case a11 => k_is); (case l11 => k_is); (case c11 => k_is); (case k11 => k_is); (case a12 => k_is); (case l12 => k_is); (case c12 => k_is); (case k12 => k_is); (case a13 => k_is); (case l13 => k_is); (case c13 => k_is); (case k13 => k_is); (case a14 => k_is); (case l14 => k_is); (case c14 => k_is); (case k14 => k_is); (case a15 => k_is); (case l15 => k_is); (case c15 => k_is); (case k15 => k_is); (case a16 => k_is); (case l16 => k_is); (case c16 => k_is); (case k16 => k_is); (case a17 => k_is); (case l17 => k_is); (case c17 => k_is); (case k17 => k_is); (case a18 => k_is); (case l18 => k_is); (case c18 => k_is); (case k18 => k_is); (case a19 => k_is); (case l19 => k_is); (case c19 => k_is); (case k19 => k_is); (case a20 => k_is); (case l20 => k_is); (case c20 => k_is); (case k20 => k_is); (case a21 => k_is); (case l21 => k_is); (case c21 => k_is); (case k21 => k_is); (case a22 => k_is); (case l22 => k_is); (case c22 => k_is); (case k22 => k_is); (case a23 => k_is); (case l23 => k_is); (case c23 => k_is); (case k23 => k_is); (case a24 => k_is); (case l24 => k_is); (case c24 => k_is); (case k24 => k_is); (case a25 => k_is); (case l25 => k_is); (case c25 => k_is); (case k25 => k_is); (case a26 => k_is); (case l26 => k_is); (case c26 => k_is); (case k26 => k_is); (case a27 => k_is); (case l27 => k_is); (case c27 => k_is); (case k27 => k_is); (case a28 => k_is); (case l28 => k_is); (case c28 => k_is); (case k28 => k_is); (case a29 => k_is); (case l29 => k_is); (case c29 => k_is); (case k29 => k_is); (case a30 => k_is); (case l30 => k_is); (case c30 => k_is); (case k30 => k_is); (case a31 => k_is); (case l31 => k_is); (case c31 => k_is); (case k31 => k_is); (case a32 => k_is); (case l32 => k_is); (case c32 => k_is); (case k32 => k_is); (case a33 => k_is); (case l33 => k_is); (case c33 => k_is); (case k33 => k_is); (case a34 => k_is); (case l34 => k_is); (case c34 => k_is); (case k34 => k_is); (case a35 => k_is); (case l35 => k_is); (case c35 => k_is); (case k35 => k_is); (case a36 => k_is); (case l36 => k_is); (case c36 => k_is); (case k36 => k_is); (case a37 => k_is); (case l37 => k_is); (case c37 => k_is); (case k37 => k_is); (case a38 => k_is); (case l38 => k_is); (case c38 => k_is); (case k38 => k_is); (case a39 => k_is); (case l39 => k_is); (case c39 => k_is); (case k39 => k_is); (case a40 => k_is); (case l40 => k_is); (case c40 => k_is); (case k40 => k_is); (case z_abs => k_is); (case z_bool => k_is); (case z_int => k_is); (case z_isinstance => k_is); (case z_len => k_is); (case z_list => k_is); (case z_range => k_is); (case z_str => k_is); (case z_tuple => k_is)
