import PyProof.Rows.All
import Wide.All
import OpenK.AllK
import Wide.FinOn
import HandS.ForMost
import HandS.Wide
import HandS.IsInst
import HandS.Style
import HandS.Deep
import HandS.EndBits
import HandS.TupAny
import HandS.Iter
import HandS.Codes
import PySem.Challenge.RW_standproof_k00_fractions_of_many_figures
set_option Elab.async false
set_option linter.all false
set_option maxRecDepth 100000
set_option maxHeartbeats 4000000
-- SemA
/-! SemA: a def's body as a plain Lean function over data (PyData): what data lies in a heap, environments, the readings of expressions. -/
namespace Sem
open PySem L2

/-! ### data in a heap -/
def keyD : Key → PyData
  | .inl i => .int i
  | .inr s => .str s
mutual
def Rep (K : PySem.W.Frag) (H : Hp) : PyData → V → Prop
  | .none, v => v = .non
  | .bool b, v => v = .bl b
  | .int i, v => v = .int i
  | .str x, v => v = .str x
  | .list ds, v => ∃ a vs, v = .ref a ∧ H a = some (.lst vs) ∧ RepL K H ds vs
  | .tuple ds, v => ∃ a vs, v = .ref a ∧ SqT K H a vs ∧ RepL K H ds vs
  | .dict kvs, v => ∃ a kws, v = .ref a ∧ H a = some (.dK kws) ∧ RepD K H kvs kws
def RepL (K : PySem.W.Frag) (H : Hp) : List PyData → List V → Prop
  | [], vs => vs = []
  | d :: ds, vs => ∃ v r, vs = v :: r ∧ Rep K H d v ∧ RepL K H ds r
def RepP (K : PySem.W.Frag) (H : Hp) : PyData × PyData → Key × V → Prop
  | (k, d), kv => k = keyD kv.1 ∧ Rep K H d kv.2
def RepD (K : PySem.W.Frag) (H : Hp) : List (PyData × PyData) → List (Key × V) → Prop
  | [], kws => kws = []
  | p :: r, kws => ∃ kv r', kws = kv :: r' ∧ RepP K H p kv ∧ RepD K H r r'
end

theorem Same.tup {K : PySem.W.Frag} {H H' : Hp} {a : Addr} {xs : List V} (e : Same H H') (h : SqT K H a xs) : SqT K H' a xs := by
  rcases h with (h | ⟨o, h⟩) | h
  · exact .inl (.inl (e _ _ h))
  · exact .inl (.inr ⟨o, e _ _ h⟩)
  · exact .inr h

section
variable {K : PySem.W.Frag} {H H' : Hp}
mutual
theorem Rep.mono (e : Same H H') : ∀ (d : PyData) (v : V), Rep K H d v → Rep K H' d v
  | .none, _, h => h
  | .bool _, _, h => h
  | .int _, _, h => h
  | .str _, _, h => h
  | .list ds, v, h => by
    rw [Rep] at h ⊢
    obtain ⟨a, vs, h1, h2, h3⟩ := h
    exact ⟨a, vs, h1, e _ _ h2, RepL.mono e ds vs h3⟩
  | .tuple ds, v, h => by
    rw [Rep] at h ⊢
    obtain ⟨a, vs, h1, h2, h3⟩ := h
    exact ⟨a, vs, h1, Same.tup e h2, RepL.mono e ds vs h3⟩
  | .dict kvs, v, h => by
    rw [Rep] at h ⊢
    obtain ⟨a, vs, h1, h2, h3⟩ := h
    exact ⟨a, vs, h1, e _ _ h2, RepD.mono e kvs vs h3⟩
theorem RepL.mono (e : Same H H') : ∀ (ds : List PyData) (vs : List V), RepL K H ds vs → RepL K H' ds vs
  | [], _, h => h
  | d :: ds, vs, h => by
    rw [RepL] at h ⊢
    obtain ⟨v, r, h1, h2, h3⟩ := h
    exact ⟨v, r, h1, Rep.mono e d v h2, RepL.mono e ds r h3⟩
theorem RepP.mono (e : Same H H') : ∀ (d : PyData × PyData) (v : Key × V), RepP K H d v → RepP K H' d v
  | (k, d), v, h => by
    rw [RepP] at h ⊢
    exact ⟨h.1, Rep.mono e d _ h.2⟩
theorem RepD.mono (e : Same H H') : ∀ (ds : List (PyData × PyData)) (vs : List (Key × V)), RepD K H ds vs → RepD K H' ds vs
  | [], _, h => h
  | d :: ds, vs, h => by
    rw [RepD] at h ⊢
    obtain ⟨v, r, h1, h2, h3⟩ := h
    exact ⟨v, r, h1, RepP.mono e d v h2, RepD.mono e ds r h3⟩
end
theorem rep_int {i : Int} {v : V} : Rep K H (.int i) v ↔ v = .int i := by rw [Rep]
theorem rep_none {v : V} : Rep K H .none v ↔ v = .non := by rw [Rep]
theorem rep_bool {i : Bool} {v : V} : Rep K H (.bool i) v ↔ v = .bl i := by rw [Rep]
theorem rep_str {i : Str} {v : V} : Rep K H (.str i) v ↔ v = .str i := by rw [Rep]
theorem rep_list {ds : List PyData} {v : V} : Rep K H (.list ds) v ↔ ∃ a vs, v = .ref a ∧ H a = some (.lst vs) ∧ RepL K H ds vs := by rw [Rep]
theorem rep_tuple {ds : List PyData} {v : V} : Rep K H (.tuple ds) v ↔ ∃ a vs, v = .ref a ∧ SqT K H a vs ∧ RepL K H ds vs := by rw [Rep]
theorem rep_dict {ds : List (PyData × PyData)} {v : V} : Rep K H (.dict ds) v ↔ ∃ a vs, v = .ref a ∧ H a = some (.dK vs) ∧ RepD K H ds vs := by rw [Rep]
theorem repL_nil {vs : List V} : RepL K H [] vs ↔ vs = [] := by rw [RepL]
theorem repL_cons {d : PyData} {ds : List PyData} {vs : List V} : RepL K H (d :: ds) vs ↔ ∃ v r, vs = v :: r ∧ Rep K H d v ∧ RepL K H ds r := by rw [RepL]
theorem RepL.length : ∀ {ds : List PyData} {vs : List V}, RepL K H ds vs → vs.length = ds.length
  | [], _, h => by
    rw [repL_nil.mp h]
    rfl
  | d :: ds, vs, h => by
    obtain ⟨v, r, rfl, _, h⟩ := repL_cons.mp h
    rw [List.length_cons, List.length_cons, RepL.length h]
theorem RepL.get : ∀ {ds : List PyData} {vs : List V} {i : Nat} {d : PyData}, RepL K H ds vs → ds[i]? = some d → ∃ v, vs[i]? = some v ∧ Rep K H d v
  | [], _, _, _, _, e => by simp at e
  | d :: ds, vs, 0, d', h, e => by
    obtain ⟨v, r, rfl, h1, _⟩ := repL_cons.mp h
    have e' : d = d' := by simpa using e
    subst e'
    exact ⟨v, rfl, h1⟩
  | d :: ds, vs, i + 1, d', h, e => by
    obtain ⟨v, r, rfl, _, h2⟩ := repL_cons.mp h
    obtain ⟨w, h3, h4⟩ := RepL.get (i := i) h2 (by simpa using e)
    exact ⟨w, by simpa using h3, h4⟩
theorem RepL.append : ∀ {ds es : List PyData} {vs ws : List V}, RepL K H ds vs → RepL K H es ws → RepL K H (ds ++ es) (vs ++ ws)
  | [], es, vs, ws, h, h' => by
    rw [repL_nil.mp h]
    exact h'
  | d :: ds, es, vs, ws, h, h' => by
    obtain ⟨v, r, rfl, h1, h2⟩ := repL_cons.mp h
    exact repL_cons.mpr ⟨v, r ++ ws, rfl, h1, h2.append h'⟩
theorem RepL.one {d : PyData} {v : V} (h : Rep K H d v) : RepL K H [d] [v] := repL_cons.mpr ⟨v, [], rfl, h, repL_nil.mpr rfl⟩
theorem RepL.take : ∀ {ds : List PyData} {vs : List V} (n : Nat), RepL K H ds vs → RepL K H (ds.take n) (vs.take n)
  | [], vs, n, h => by
    rw [repL_nil.mp h, List.take_nil, List.take_nil]
    exact repL_nil.mpr rfl
  | d :: ds, vs, 0, h => repL_nil.mpr rfl
  | d :: ds, vs, n + 1, h => by
    obtain ⟨v, r, rfl, h1, h2⟩ := repL_cons.mp h
    exact repL_cons.mpr ⟨v, r.take n, rfl, h1, h2.take n⟩
theorem RepL.drop : ∀ {ds : List PyData} {vs : List V} (n : Nat), RepL K H ds vs → RepL K H (ds.drop n) (vs.drop n)
  | [], vs, n, h => by
    rw [repL_nil.mp h, List.drop_nil, List.drop_nil]
    exact repL_nil.mpr rfl
  | d :: ds, vs, 0, h => h
  | d :: ds, vs, n + 1, h => by
    obtain ⟨v, r, rfl, h1, h2⟩ := repL_cons.mp h
    exact h2.drop n
theorem RepL.set : ∀ {ds : List PyData} {vs : List V} {d : PyData} {v : V} (n : Nat), RepL K H ds vs → Rep K H d v → RepL K H (ds.set n d) (vs.set n v)
  | [], vs, _, _, n, h, _ => by
    rw [repL_nil.mp h]
    exact repL_nil.mpr rfl
  | e :: ds, vs, d, v, 0, h, hd => by
    obtain ⟨w, r, rfl, h1, h2⟩ := repL_cons.mp h
    exact repL_cons.mpr ⟨v, r, rfl, hd, h2⟩
  | e :: ds, vs, d, v, n + 1, h, hd => by
    obtain ⟨w, r, rfl, h1, h2⟩ := repL_cons.mp h
    exact repL_cons.mpr ⟨w, r.set n v, rfl, h1, h2.set n hd⟩
theorem RepL.replicate {ds : List PyData} {vs : List V} (h : RepL K H ds vs) : ∀ n : Nat, RepL K H (List.replicate n ds).flatten (List.replicate n vs).flatten
  | 0 => repL_nil.mpr rfl
  | n + 1 => by
    rw [List.replicate_succ, List.replicate_succ, List.flatten_cons, List.flatten_cons]
    exact h.append (h.replicate n)
theorem RepL.ints : ∀ {ns : List Int} {vs : List V}, RepL K H (ns.map PyData.int) vs → vs = ns.map V.int
  | [], vs, h => repL_nil.mp h
  | n :: ns, vs, h => by
    obtain ⟨v, r, rfl, h1, h2⟩ := repL_cons.mp h
    rw [rep_int.mp h1, RepL.ints h2] <;> rfl
theorem RepL.bools : ∀ {ns : List Bool} {vs : List V}, RepL K H (ns.map PyData.bool) vs → vs = ns.map V.bl
  | [], vs, h => repL_nil.mp h
  | n :: ns, vs, h => by
    obtain ⟨v, r, rfl, h1, h2⟩ := repL_cons.mp h
    rw [rep_bool.mp h1, RepL.bools h2] <;> rfl
theorem RepL.strs : ∀ {ns : List Str} {vs : List V}, RepL K H (ns.map PyData.str) vs → vs = ns.map V.str
  | [], vs, h => repL_nil.mp h
  | n :: ns, vs, h => by
    obtain ⟨v, r, rfl, h1, h2⟩ := repL_cons.mp h
    rw [rep_str.mp h1, RepL.strs h2] <;> rfl
theorem RepL.of_ints : ∀ {ns : List Int}, RepL K H (ns.map PyData.int) (ns.map V.int)
  | [] => repL_nil.mpr rfl
  | n :: ns => repL_cons.mpr ⟨.int n, ns.map V.int, rfl, rep_int.mpr rfl, RepL.of_ints⟩
mutual
theorem Rep.dp : ∀ (d : PyData) (v : V), d.canLay0 = true → Rep K H d v → Dp K H v d
  | .none, _, _, h => by
    rw [rep_none.mp h]
    exact .non
  | .bool b, _, _, h => by
    rw [rep_bool.mp h]
    exact .bl b
  | .int i, _, _, h => by
    rw [rep_int.mp h]
    exact .int i
  | .str x, _, _, h => by
    rw [rep_str.mp h]
    exact .str x
  | .list ds, _, c, h => by
    obtain ⟨a, vs, rfl, h2, h3⟩ := rep_list.mp h
    exact .lst (SqL.of h2) (RepL.dp ds vs (by simpa [PyData.canLay0] using c) h3)
  | .tuple ds, _, c, h => by
    obtain ⟨a, vs, rfl, h2, h3⟩ := rep_tuple.mp h
    exact .tup h2 (RepL.dp ds vs (by simpa [PyData.canLay0] using c) h3)
  | .dict _, _, c, _ => by simp [PyData.canLay0] at c
theorem RepL.dp : ∀ (ds : List PyData) (vs : List V), PyData.canLayAll0 ds = true → RepL K H ds vs → DpAll K H vs ds
  | [], _, _, h => by
    rw [repL_nil.mp h]
    exact .nil
  | d :: ds, vs, c, h => by
    obtain ⟨v, r, rfl, h1, h2⟩ := repL_cons.mp h
    have c' : d.canLay0 = true ∧ PyData.canLayAll0 ds = true := by simpa [PyData.canLayAll0] using c
    exact .cons (Rep.dp d v c'.1 h1) (RepL.dp ds r c'.2 h2)
end
end

/-- the list itself in H, its items in F -/
def Top (K : PySem.W.Frag) (F H : Hp) : PyData → V → Prop
  | .list ds, v => ∃ a vs, v = .ref a ∧ H a = some (.lst vs) ∧ RepL K F ds vs
  | d, v => Rep K F d v
theorem Rep.top {K : PySem.W.Frag} {F H : Hp} {d : PyData} {v : V} (e : Same F H) (h : Rep K F d v) : Top K F H d v := by
  cases d with
  | list ds =>
    obtain ⟨a, vs, h1, h2, h3⟩ := rep_list.mp h
    exact ⟨a, vs, h1, e _ _ h2, h3⟩
  | _ => exact h
theorem Top.rep {K : PySem.W.Frag} {F H : Hp} {d : PyData} {v : V} (e : Same F H) (h : Top K F H d v) : Rep K H d v := by
  cases d with
  | list ds =>
    obtain ⟨a, vs, h1, h2, h3⟩ := h
    exact rep_list.mpr ⟨a, vs, h1, h2, h3.mono e⟩
  | none => exact Rep.mono e _ _ h
  | bool _ => exact Rep.mono e _ _ h
  | int _ => exact Rep.mono e _ _ h
  | str _ => exact Rep.mono e _ _ h
  | tuple _ => exact Rep.mono e _ _ h
  | dict _ => exact Rep.mono e _ _ h

section
variable {K : PySem.W.Frag} {F H : Hp} {v : V}
theorem top_int {i : Int} (h : Top K F H (.int i) v) : v = .int i := (rep_int (K := K) (H := F)).mp h
theorem top_none (h : Top K F H .none v) : v = .non := (rep_none (K := K) (H := F)).mp h
theorem top_bool {i : Bool} (h : Top K F H (.bool i) v) : v = .bl i := (rep_bool (K := K) (H := F)).mp h
theorem top_str {i : Str} (h : Top K F H (.str i) v) : v = .str i := (rep_str (K := K) (H := F)).mp h
theorem top_tuple {ds : List PyData} (h : Top K F H (.tuple ds) v) : ∃ a vs, v = .ref a ∧ SqT K F a vs ∧ RepL K F ds vs := (rep_tuple (K := K) (H := F)).mp h
theorem top_dict {ds : List (PyData × PyData)} (h : Top K F H (.dict ds) v) : ∃ a vs, v = .ref a ∧ F a = some (.dK vs) ∧ RepD K F ds vs := (rep_dict (K := K) (H := F)).mp h
end

/-! ### what a slot holds: data that stays, or a list of one's own -/
inductive T where
  | dat (d : PyData)
  | lst (ds : List PyData)
  /-- the script, which is only handed on -/
  | scr (a : Addr) (ns : List Int)
abbrev DEnv := List (Option T)
def Own (K : PySem.W.Frag) (F H : Hp) : T → V → List Addr → Prop
  | .dat d, v, B => Rep K F d v ∧ B = []
  | .lst ds, v, B => ∃ p vs, v = .ref p ∧ B = [p] ∧ H p = some (.lst vs) ∧ RepL K F ds vs
  | .scr a ns, v, B => v = .ref a ∧ SqL K F a (ns.map V.int) ∧ B = []
theorem Own.frame {K : PySem.W.Frag} {F H F' H' : Hp} {t : T} {v : V} {B : List Addr} (h : Own K F H t v B) (e : Same F F') (k : ∀ p ∈ B, ∀ o, H p = some o → H' p = some o) : Own K F' H' t v B := by
  cases t with
  | dat d => exact ⟨Rep.mono e _ _ h.1, h.2⟩
  | lst ds =>
    obtain ⟨p, vs, h1, h2, h3, h4⟩ := h
    subst h2
    exact ⟨p, vs, h1, rfl, k p (by simp) _ h3, RepL.mono e _ _ h4⟩
  | scr a ns => exact ⟨h.1, Same.seq e h.2.1, h.2.2⟩
theorem Own.live {K : PySem.W.Frag} {F H : Hp} {t : T} {v : V} {B : List Addr} (h : Own K F H t v B) : ∀ p ∈ B, ∃ o, H p = some o := by
  cases t with
  | dat d =>
    obtain ⟨_, rfl⟩ := h
    intro p hp
    cases hp
  | lst ds =>
    obtain ⟨p, vs, h1, rfl, h3, h4⟩ := h
    intro q hq
    have e : q = p := by simpa using hq
    subst e
    exact ⟨_, h3⟩
  | scr a ns =>
    obtain ⟨_, _, rfl⟩ := h
    intro p hp
    cases hp

structure Wd (K : PySem.W.Frag) (F H : Hp) (ρ : DEnv) (σ : L2.St) (α : Nat → List Addr) : Prop where
  sub : Same F H
  len : σ.length = ρ.length
  slot : ∀ i t, ρ[i]? = some (some t) → ∃ v, σ[i]? = some (some v) ∧ Own K F H t v (α i)
  free : ∀ i p, p ∈ α i → F p = none
  disj : ∀ i j p, p ∈ α i → p ∈ α j → i = j
  live : ∀ i p, p ∈ α i → ∃ o, H p = some o
/-- what may have changed -/
structure GS (F H : Hp) (α : Nat → List Addr) (F' H' : Hp) (α' : Nat → List Addr) : Prop where
  f : Same F F'
  n : ∀ p o, F' p = some o → F p = none → H p = none ∨ ∃ i, p ∈ α i
  h : ∀ p o, H p = some o → (∀ i, p ∉ α i) → H' p = some o
  k : ∀ p o, H p = some o → ∃ o', H' p = some o'
  a : ∀ i p, p ∈ α' i → (∃ j, p ∈ α j) ∨ H p = none
/-- .. and every list of one's own is still in its slot, or has become data -/
structure Gr (F H : Hp) (α : Nat → List Addr) (F' H' : Hp) (α' : Nat → List Addr) : Prop extends GS F H α F' H' α' where
  o : ∀ i p, p ∈ α i → p ∈ α' i ∨ ∃ u, F' p = some u
/-- new objects alone -/
structure New (F H F' H' : Hp) : Prop where
  f : Same F F'
  h : Same H H'
  s : Same F' H'
  n : ∀ p o, F' p = some o → F p = none → H p = none
section
variable {K : PySem.W.Frag} {F H F1 H1 F2 H2 : Hp} {ρ : DEnv} {σ : L2.St} {α α1 α2 : Nat → List Addr}
theorem GS.refl : GS F H α F H α := ⟨Same.refl F, fun p o h n => (by rw [h] at n; cases n), fun _ _ h _ => h, fun _ o h => ⟨o, h⟩, fun i p h => .inl ⟨i, h⟩⟩
theorem none_of_some {H : Hp} {p : Addr} (h : ∀ o, ¬ H p = some o) : H p = none := by
  cases e : H p with
  | none => rfl
  | some o => exact absurd e (h o)
theorem GS.trans (a : GS F H α F1 H1 α1) (b : GS F1 H1 α1 F2 H2 α2) : GS F H α F2 H2 α2 where
  f := a.f.trans b.f
  n := fun p o h n => by
    cases e : F1 p with
    | some o1 => exact a.n p o1 e n
    | none =>
      rcases b.n p o h e with q | ⟨i, q⟩
      · cases e2 : H p with
        | none => exact .inl rfl
        | some o2 =>
          obtain ⟨o3, e3⟩ := a.k p o2 e2
          rw [e3] at q
          cases q
      · rcases a.a i p q with q | q
        · exact .inr q
        · exact .inl q
  h := fun p o h n => b.h p o (a.h p o h n) fun i hi => by
    rcases a.a i p hi with ⟨j, q⟩ | q
    · exact n j q
    · rw [h] at q; cases q
  k := fun p o h => by
    obtain ⟨o1, h1⟩ := a.k p o h
    exact b.k p o1 h1
  a := fun i p h => by
    rcases b.a i p h with ⟨j, q⟩ | q
    · exact a.a j p q
    · refine .inr (none_of_some fun o e => ?_)
      obtain ⟨o1, h1⟩ := a.k p o e
      rw [h1] at q
      cases q
theorem Gr.refl : Gr F H α F H α := ⟨GS.refl, fun _ _ h => .inl h⟩
theorem Gr.trans (a : Gr F H α F1 H1 α1) (b : Gr F1 H1 α1 F2 H2 α2) : Gr F H α F2 H2 α2 := ⟨a.toGS.trans b.toGS, fun i p h => by
  rcases a.o i p h with q | ⟨u, q⟩
  · exact b.o i p q
  · exact .inr ⟨u, b.f _ _ q⟩⟩
theorem New.refl (e : Same F H) : New F H F H := ⟨Same.refl F, Same.refl H, e, fun p o h n => by rw [h] at n; cases n⟩
theorem New.laid {p : Addr} {o : HO} (e : Same F H) (h : H p = none) : New F H (upd F p o) (upd H p o) := by
  have hf : F p = none := none_of_some fun u q => by rw [e _ _ q] at h; cases h
  refine ⟨fun a u q => ?_, fun a u q => ?_, fun a u q => ?_, fun a u q n => ?_⟩
  · rw [upd_ne (ne_of_none q hf)]; exact q
  · rw [upd_ne (ne_of_none q h)]; exact q
  · by_cases z : a = p
    · subst z; rw [upd_same] at q ⊢; exact q
    · rw [upd_ne z] at q ⊢; exact e _ _ q
  · by_cases z : a = p
    · subst z; exact h
    · rw [upd_ne z] at q; rw [q] at n; cases n
theorem Wd.new (w : Wd K F H ρ σ α) (n : New F H F1 H1) : Wd K F1 H1 ρ σ α where
  sub := n.s
  len := w.len
  slot := fun i t h => by
    obtain ⟨v, h1, h2⟩ := w.slot i t h
    exact ⟨v, h1, h2.frame n.f fun p _ o e => n.h p o e⟩
  free := fun i p h => none_of_some fun o e => by
    obtain ⟨u, hu⟩ := w.live i p h
    have := n.n p o e (w.free i p h)
    rw [hu] at this
    cases this
  disj := w.disj
  live := fun i p h => by
    obtain ⟨u, hu⟩ := w.live i p h
    exact ⟨u, n.h p u hu⟩
theorem New.gr (n : New F H F1 H1) : Gr F H α F1 H1 α := ⟨⟨n.f, fun p o h q => .inl (n.n p o h q), fun p o h _ => n.h p o h, fun p o h => ⟨o, n.h p o h⟩, fun i p h => .inl ⟨i, h⟩⟩, fun _ _ h => .inl h⟩
theorem New.trans (a : New F H F1 H1) (b : New F1 H1 F2 H2) : New F H F2 H2 := ⟨a.f.trans b.f, a.h.trans b.h, b.s, fun p o h n => by
  cases e : F1 p with
  | some o1 => exact a.n p o1 e n
  | none =>
    have q := b.n p o h e
    refine none_of_some fun u hu => ?_
    rw [a.h p u hu] at q
    cases q⟩
end

/-! ### readings -/
inductive R where
  | dat (d : PyData)
  | loc (i : Nat)
def ResOk (K : PySem.W.Frag) (F : Hp) (σ : L2.St) : R → V → Prop
  | .dat d, v => Rep K F d v
  | .loc i, v => σ[i]? = some (some v)
theorem ResOk.mono {K : PySem.W.Frag} {F F' : Hp} {σ : L2.St} {r : R} {v : V} (e : Same F F') (h : ResOk K F σ r v) : ResOk K F' σ r v := by
  cases r with
  | dat d => exact Rep.mono e _ _ h
  | loc i => exact h
/-- a result as data, its slot read now -/
def rd (ρ : DEnv) : R → Option PyData
  | .dat d => some d
  | .loc i => match ρ[i]? with
    | some (some (.lst ds)) => some (.list ds)
    | some (some (.dat d)) => some d
    | _ => none
theorem rd_top {K : PySem.W.Frag} {F H : Hp} {ρ : DEnv} {σ : L2.St} {α : Nat → List Addr} {r : R} {v : V} {d : PyData} (w : Wd K F H ρ σ α) (h : ResOk K F σ r v) (e : rd ρ r = some d) : Top K F H d v := by
  cases r with
  | dat d' =>
    have e' : d' = d := Option.some.inj e
    subst e'
    exact Rep.top w.sub h
  | loc i =>
    have hv : σ[i]? = some (some v) := h
    unfold rd at e
    cases hs : ρ[i]? with
    | none => simp only [hs] at e; cases e
    | some o =>
      cases o with
      | none => simp only [hs] at e; cases e
      | some t =>
        obtain ⟨u, h1, h2⟩ := w.slot i _ hs
        rw [hv] at h1
        cases h1
        simp only [hs] at e
        cases t with
        | lst ds =>
          cases e
          obtain ⟨p, vs, h2, _, h4, h5⟩ := h2
          exact ⟨p, vs, h2, h4, h5⟩
        | dat d' =>
          cases e
          exact Rep.top w.sub h2.1
        | scr a ns => cases e

abbrev ME := DEnv → Option (R × DEnv)
abbrev MV := DEnv → Option (PyData × DEnv)
abbrev MT := DEnv → Option (Bool × DEnv)
abbrev MA := DEnv → Option (List R × DEnv)
abbrev ML := DEnv → Option (List PyData × DEnv)
abbrev MO := DEnv → Option (T × DEnv)
/-- what holds behind: environments, heaps -/
abbrev Post := Hp → Hp → DEnv → (Nat → List Addr) → Prop
def tE (K : PySem.W.Frag) (m : ME) : TE := fun σ H Q => ∃ F ρ α r ρ', Wd K F H ρ σ α ∧ m ρ = some (r, ρ') ∧ ∀ v F' H' α', Wd K F' H' ρ' σ α' → Gr F H α F' H' α' → ResOk K F' σ r v → Q v H'
def tV (K : PySem.W.Frag) (m : MV) : TE := fun σ H Q => ∃ F ρ α d ρ', Wd K F H ρ σ α ∧ m ρ = some (d, ρ') ∧ ∀ v F' H' α', Wd K F' H' ρ' σ α' → Gr F H α F' H' α' → Rep K F' d v → Q v H'
def tT (K : PySem.W.Frag) (m : MT) : TT := fun σ H Q => ∃ F ρ α b ρ', Wd K F H ρ σ α ∧ m ρ = some (b, ρ') ∧ ∀ F' H' α', Wd K F' H' ρ' σ α' → Gr F H α F' H' α' → Q b H'
def ArgsOk (K : PySem.W.Frag) (F : Hp) (σ : L2.St) : List R → List V → Prop
  | [], vs => vs = []
  | r :: rs, vs => ∃ v vr, vs = v :: vr ∧ ResOk K F σ r v ∧ ArgsOk K F σ rs vr
def tA (K : PySem.W.Frag) (m : MA) : TA := fun σ H Q => ∃ F ρ α rs ρ', Wd K F H ρ σ α ∧ m ρ = some (rs, ρ') ∧ ∀ vs F' H' α', Wd K F' H' ρ' σ α' → Gr F H α F' H' α' → ArgsOk K F' σ rs vs → Q vs H'
def tL (K : PySem.W.Frag) (m : ML) : TA := fun σ H Q => ∃ F ρ α ds ρ', Wd K F H ρ σ α ∧ m ρ = some (ds, ρ') ∧ ∀ vs F' H' α', Wd K F' H' ρ' σ α' → Gr F H α F' H' α' → RepL K F' ds vs → Q vs H'
def tO (K : PySem.W.Frag) (m : MO) : TE := fun σ H Q => ∃ F ρ α t ρ', Wd K F H ρ σ α ∧ m ρ = some (t, ρ') ∧ ∀ v F' H' α' B, Wd K F' H' ρ' σ α' → Gr F H α F' H' α' → Own K F' H' t v B →
  (∀ p ∈ B, F' p = none ∧ H p = none ∧ ∀ i, p ∉ α' i) → Q v H'

section
variable {X : Cx} {e : Expr} {es : List Expr}
theorem PE.imp {t t' : TE} (h : PE X e t) (i : ∀ σ H Q, t' σ H Q → t σ H Q) : PE X e t' := ⟨fun pins s σ H Q I q => h.run pins s σ H Q I (i σ H Q q)⟩
theorem PT.imp {t t' : TT} (h : PT X e t) (i : ∀ σ H Q, t' σ H Q → t σ H Q) : PT X e t' := ⟨fun pins s σ H Q I q => h.run pins s σ H Q I (i σ H Q q)⟩
theorem PW.imp {t t' : TT} (h : PW X e t) (i : ∀ σ H Q, t' σ H Q → t σ H Q) : PW X e t' := ⟨fun wh pins s σ H Q I q => h.run wh pins s σ H Q I (i σ H Q q)⟩
theorem PA.imp {t t' : TA} (h : PA X es t) (i : ∀ σ H Q, t' σ H Q → t σ H Q) : PA X es t' := ⟨fun pos pins s σ H Q I q => h.run pos pins s σ H Q I (i σ H Q q)⟩
theorem PS.imp {st : Stmt} {t t' : TS} (h : PS X st t) (i : ∀ D σ H, t' D σ H → t D σ H) : PS X st t' := ⟨fun pins s σ H D I q => h.run pins s σ H D I (i D σ H q)⟩
theorem PSs.imp {st : List Stmt} {t t' : TS} (h : PSs X st t) (i : ∀ D σ H, t' D σ H → t D σ H) : PSs X st t' := ⟨fun pins s σ H D I q => h.run pins s σ H D I (i D σ H q)⟩
end
abbrev SE (X : Cx) (e : Expr) (m : ME) : Prop := PE X e (tE X.K m)
abbrev SV (X : Cx) (e : Expr) (m : MV) : Prop := PE X e (tV X.K m)
abbrev ST (X : Cx) (e : Expr) (m : MT) : Prop := PT X e (tT X.K m)
abbrev SA (X : Cx) (es : List Expr) (m : MA) : Prop := PA X es (tA X.K m)
abbrev SL (X : Cx) (es : List Expr) (m : ML) : Prop := PA X es (tL X.K m)
abbrev SO (X : Cx) (e : Expr) (m : MO) : Prop := PE X e (tO X.K m)
end Sem
-- SemB
/-! SemB: expressions: names, constants, operators, comparisons, tests, displays, subscripts, calls of built-ins. -/
namespace Sem
open PySem L2
section
variable {X : Cx} {a b c e : Expr} {es : List Expr} {pos : Pos}

/-! ### names, constants -/
def mVar (i : Nat) : ME := fun ρ => match ρ[i]? with
  | some (some (.dat d)) => some (.dat d, ρ)
  | some (some (.lst _)) => some (.loc i, ρ)
  | some (some (.scr _ _)) => some (.loc i, ρ)
  | _ => none
theorem se_var (i : Nat) {x : Str} (hN : X.N[i]? = some x := by rfl) (hv : Vis X.env.scope x := by first | exact Or.inl rfl | exact Or.inr (Or.inl rfl) | exact Or.inr (Or.inr rfl)) (hd : (x == ("__debug__" : Str)) = false := by decide)
    (hcd : (x == ("__classdict__" : Str)) = false := by decide) : SE X (.Name x pos) (mVar i) := PE.imp (pe_var hN hv hd hcd) fun σ H Q h => by
  obtain ⟨F, ρ, α, r, ρ', w, hm, q⟩ := h
  unfold mVar at hm
  cases hs : ρ[i]? with
  | none => simp only [hs] at hm; cases hm
  | some o =>
    cases o with
    | none => simp only [hs] at hm; cases hm
    | some t =>
      obtain ⟨v, h1, h2⟩ := w.slot i _ hs
      simp only [hs] at hm
      cases t with
      | dat d =>
        cases hm
        exact ⟨v, h1, q v F H α w Gr.refl h2.1⟩
      | lst ds =>
        cases hm
        exact ⟨v, h1, q v F H α w Gr.refl h1⟩
      | scr a ns =>
        cases hm
        exact ⟨v, h1, q v F H α w Gr.refl h1⟩
def mC (d : PyData) : MV := fun ρ => some (d, ρ)
theorem tC_of {K : PySem.W.Frag} {d : PyData} {v : V} (hv : ∀ F, Rep K F d v) : ∀ σ H Q, tV K (mC d) σ H Q → tC v σ H Q := fun σ H Q h => by
  obtain ⟨F, ρ, α, r, ρ', w, hm, q⟩ := h
  cases hm
  exact q v F H α w Gr.refl (hv F)
theorem sv_int {i j} : SV X (.Constant (.int i) j pos) (mC (.int i)) := PE.imp pe_int (tC_of fun _ => rep_int.mpr rfl)
theorem sv_bl {i j} : SV X (.Constant (.bool i) j pos) (mC (.bool i)) := PE.imp pe_bl (tC_of fun _ => rep_bool.mpr rfl)
theorem sv_non {j} : SV X (.Constant .none j pos) (mC .none) := PE.imp pe_non (tC_of fun _ => rep_none.mpr rfl)
theorem sv_str {i j} : SV X (.Constant (.str i) j pos) (mC (.str i)) := PE.imp pe_str (tC_of fun _ => rep_str.mpr rfl)
theorem sv_glob {x : Str} {v : V} {u : Value} {d : PyData} (hv : ∀ F, Rep X.K F d v) (hm : X.mg x = some u) (r : RelV v u) (hg : Gl X x := by rfl) (hd : (x == ("__debug__" : Str)) = false := by decide) : SV X (.Name x pos) (mC d) :=
  PE.imp (pe_glob hg hm r hd) (tC_of hv)

/-! ### from one kind of result to another -/
def mSet (m : ME) : MV := fun ρ => match m ρ with
  | some (.dat d, ρ1) => some (d, ρ1)
  | some (.loc i, ρ1) => match ρ1[i]? with
    | some (some (.lst ds)) => some (.list ds, ρ1.set i (some (.dat (.list ds))))
    | _ => none
  | none => none
def mD (m : MV) : ME := fun ρ => match m ρ with
  | some (d, ρ1) => some (.dat d, ρ1)
  | none => none
def frT : T → Option PyData
  | .dat d => some d
  | .lst ds => some (.list ds)
  | .scr _ _ => none
def mFr (m : MO) : MV := fun ρ => match m ρ with
  | some (t, ρ1) => match frT t with
    | some d => some (d, ρ1)
    | none => none
  | none => none
def mO (m : MV) : MO := fun ρ => match m ρ with
  | some (d, ρ1) => some (.dat d, ρ1)
  | none => none
/-- a list of one's own becomes data -/
theorem Wd.freeze {K : PySem.W.Frag} {F H : Hp} {ρ : DEnv} {σ : L2.St} {α : Nat → List Addr} {i : Nat} {ds : List PyData} (w : Wd K F H ρ σ α) (h : ρ[i]? = some (some (.lst ds))) :
    ∃ v F' α', σ[i]? = some (some v) ∧ Wd K F' H (ρ.set i (some (.dat (.list ds)))) σ α' ∧ Gr F H α F' H α' ∧ Rep K F' (.list ds) v := by
  obtain ⟨v, h1, p, vs, h2, h3, h4, h5⟩ := w.slot i _ h
  have hp : p ∈ α i := by rw [h3]; simp
  have hF : F p = none := w.free i p hp
  have sF : Same F (upd F p (.lst vs)) := fun a o e => by
    rw [upd_ne (ne_of_none e hF)]
    exact e
  have rp : Rep K (upd F p (.lst vs)) (.list ds) v := rep_list.mpr ⟨p, vs, h2, upd_same, RepL.mono sF _ _ h5⟩
  refine ⟨v, upd F p (.lst vs), fun j => if j = i then [] else α j, h1, ⟨fun a o e => ?_, by rw [List.length_set]; exact w.len, fun j t ht => ?_, fun j q hq => ?_, fun j k q hj hk => ?_, fun j q hq => ?_⟩, ⟨⟨sF, fun q o e n => ?_, fun q o e n => e, fun q o e => ⟨o, e⟩, fun j q hq => ?_⟩, fun j q hq => ?_⟩, rp⟩
  · by_cases z : a = p
    · subst z
      rw [upd_same] at e
      cases e
      exact h4
    · rw [upd_ne z] at e
      exact w.sub _ _ e
  · by_cases z : j = i
    · subst z
      obtain ⟨hl, _⟩ := List.getElem?_eq_some_iff.mp h
      rw [List.getElem?_set_self hl] at ht
      cases ht
      exact ⟨v, h1, rp, by rw [if_pos rfl]⟩
    · rw [List.getElem?_set_ne (Ne.symm z)] at ht
      obtain ⟨u, g1, g2⟩ := w.slot j _ ht
      refine ⟨u, g1, ?_⟩
      rw [if_neg z]
      exact g2.frame sF fun _ _ _ e => e
  · by_cases z : j = i
    · rw [if_pos z] at hq; cases hq
    · rw [if_neg z] at hq
      have ne : q ≠ p := fun e => z (w.disj j i q hq (by rw [e]; exact hp))
      rw [upd_ne ne]
      exact w.free j q hq
  · by_cases z : j = i
    · rw [if_pos z] at hj; cases hj
    · rw [if_neg z] at hj
      by_cases z2 : k = i
      · rw [if_pos z2] at hk; cases hk
      · rw [if_neg z2] at hk
        exact w.disj j k q hj hk
  · by_cases z : j = i
    · rw [if_pos z] at hq; cases hq
    · rw [if_neg z] at hq
      exact w.live j q hq
  · by_cases z : q = p
    · subst z
      exact .inr ⟨i, hp⟩
    · rw [upd_ne z] at e
      rw [n] at e
      cases e
  · by_cases z : j = i
    · rw [if_pos z] at hq; cases hq
    · rw [if_neg z] at hq
      exact .inl ⟨j, hq⟩
  · by_cases z : j = i
    · refine .inr ⟨.lst vs, ?_⟩
      subst z
      rw [h3] at hq
      have e' : q = p := by simpa using hq
      rw [e']
      exact upd_same
    · refine .inl ?_
      rw [if_neg z]
      exact hq
theorem sv_se {m : ME} (h : SE X e m) : SV X e (mSet m) := PE.imp h fun σ H Q h => by
  obtain ⟨F, ρ, α, d, ρ', w, hm, q⟩ := h
  unfold mSet at hm
  cases hr : m ρ with
  | none => simp only [hr] at hm; cases hm
  | some x =>
    obtain ⟨r, ρ1⟩ := x
    simp only [hr] at hm
    refine ⟨F, ρ, α, r, ρ1, w, hr, fun v F' H' α' w' g rk => ?_⟩
    cases r with
    | dat d' =>
      cases hm
      exact q v F' H' α' w' g rk
    | loc i =>
      cases hs : ρ1[i]? with
      | none => simp only [hs] at hm; cases hm
      | some o =>
        cases o with
        | none => simp only [hs] at hm; cases hm
        | some t =>
          cases t with
          | dat _ => simp only [hs] at hm; cases hm
          | scr _ _ => simp only [hs] at hm; cases hm
          | lst ds =>
            simp only [hs] at hm
            cases hm
            obtain ⟨u, F2, α2, h1, w2, g2, rp⟩ := w'.freeze hs
            have hv : σ[i]? = some (some v) := rk
            rw [hv] at h1
            cases h1
            exact q v F2 H' α2 w2 (g.trans g2) rp
theorem se_sv {m : MV} (h : SV X e m) : SE X e (mD m) := PE.imp h fun σ H Q h => by
  obtain ⟨F, ρ, α, d, ρ', w, hm, q⟩ := h
  unfold mD at hm
  cases hr : m ρ with
  | none => simp only [hr] at hm; cases hm
  | some x =>
    obtain ⟨r, ρ1⟩ := x
    simp only [hr] at hm
    cases hm
    exact ⟨F, ρ, α, r, ρ', w, hr, fun v F' H' α' w' g rk => q v F' H' α' w' g rk⟩
theorem so_sv {m : MV} (h : SV X e m) : SO X e (mO m) := PE.imp h fun σ H Q h => by
  obtain ⟨F, ρ, α, d, ρ', w, hm, q⟩ := h
  unfold mO at hm
  cases hr : m ρ with
  | none => simp only [hr] at hm; cases hm
  | some x =>
    obtain ⟨r, ρ1⟩ := x
    simp only [hr] at hm
    cases hm
    exact ⟨F, ρ, α, r, ρ', w, hr, fun v F' H' α' w' g rk => q v F' H' α' [] w' g ⟨rk, rfl⟩ fun _ h => by cases h⟩
/-- what is one's own and fresh becomes data -/
theorem Own.freeze {K : PySem.W.Frag} {F0 H0 F H : Hp} {ρ : DEnv} {σ : L2.St} {α0 α : Nat → List Addr} {t : T} {d : PyData} {v : V} {B : List Addr} (w : Wd K F H ρ σ α) (g : Gr F0 H0 α0 F H α) (o : Own K F H t v B) (hB : ∀ p ∈ B, F p = none ∧ H0 p = none ∧ ∀ i, p ∉ α i) (hd : frT t = some d) :
    ∃ F', Wd K F' H ρ σ α ∧ Gr F0 H0 α0 F' H α ∧ Rep K F' d v := by
  cases t with
  | scr a ns => cases hd
  | dat d =>
    cases hd
    exact ⟨F, w, g, o.1⟩
  | lst ds =>
    cases hd
    obtain ⟨p, vs, h2, h3, h4, h5⟩ := o
    subst h3
    obtain ⟨hF, hH0, hα⟩ := hB p (by simp)
    have sF : Same F (upd F p (.lst vs)) := fun a o e => by
      rw [upd_ne (ne_of_none e hF)]
      exact e
    refine ⟨upd F p (.lst vs), ⟨fun a o e => ?_, w.len, fun j t ht => ?_, fun j q hq => ?_, w.disj, w.live⟩, ⟨⟨g.f.trans sF, fun q o e n => ?_, g.h, g.k, g.a⟩, fun i q hq => ?_⟩, rep_list.mpr ⟨p, vs, h2, upd_same, RepL.mono sF _ _ h5⟩⟩
    · by_cases z : a = p
      · subst z
        rw [upd_same] at e
        cases e
        exact h4
      · rw [upd_ne z] at e
        exact w.sub _ _ e
    · obtain ⟨u, g1, g2⟩ := w.slot j _ ht
      exact ⟨u, g1, g2.frame sF fun _ _ _ e => e⟩
    · have ne : q ≠ p := fun e => hα j (by rw [← e]; exact hq)
      rw [upd_ne ne]
      exact w.free j q hq
    · by_cases z : q = p
      · subst z
        exact .inl hH0
      · rw [upd_ne z] at e
        exact g.n q o e n
    · rcases g.o i q hq with z | ⟨u, z⟩
      · exact .inl z
      · exact .inr ⟨u, sF _ _ z⟩
theorem sv_so {m : MO} (h : SO X e m) : SV X e (mFr m) := PE.imp h fun σ H Q h => by
  obtain ⟨F, ρ, α, d, ρ', w, hm, q⟩ := h
  unfold mFr at hm
  cases hr : m ρ with
  | none => simp only [hr] at hm; cases hm
  | some x =>
    obtain ⟨t, ρ1⟩ := x
    simp only [hr] at hm
    cases hd : frT t with
    | none => simp only [hd] at hm; cases hm
    | some d' =>
      simp only [hd] at hm
      cases hm
      refine ⟨F, ρ, α, t, ρ', w, hr, fun v F' H' α' B w' g o hB => ?_⟩
      obtain ⟨F2, w2, g2, rp⟩ := Own.freeze w' g o hB hd
      exact q v F2 H' α' w2 g2 rp

/-! ### operators on values -/
def OpD (X : Cx) (f : Value → Value → PySem.Sem Value) (g : PyData → PyData → Option PyData) : Prop := ∃ r : R2, OpR X f r ∧ ∀ d e' z, g d e' = some z → ∀ F H x y, Same F H → Top X.K F H d x → Top X.K F H e' y →
  ∀ Q : VK, (∀ v F' H', New F H F' H' → Rep X.K F' z v → Q v H') → r x y H Q
theorem OpD.mk {f : Value → Value → PySem.Sem Value} {r : R2} {g : PyData → PyData → Option PyData} (h : OpR X f r) (k : ∀ d e' z, g d e' = some z → ∀ F H x y, Same F H → Top X.K F H d x → Top X.K F H e' y →
  ∀ Q : VK, (∀ v F' H', New F H F' H' → Rep X.K F' z v → Q v H') → r x y H Q) : OpD X f g := ⟨r, h, k⟩
/-- first the one, where it tells nothing the other -/
def orG (g g' : PyData → PyData → Option PyData) : PyData → PyData → Option PyData := fun d e => match g d e with
  | some z => some z
  | none => g' d e
theorem OpD.or {f : Value → Value → PySem.Sem Value} {g g' : PyData → PyData → Option PyData} (h : OpD X f g) (h' : OpD X f g') : OpD X f (orG g g') := by
  obtain ⟨r, h1, h2⟩ := h
  obtain ⟨r', h3, h4⟩ := h'
  refine ⟨_, OpR.or h1 h3, fun d e' z hz F H x y s hd he Q q => ?_⟩
  unfold orG at hz
  cases hg : g d e' with
  | some z' =>
    simp only [hg] at hz
    cases hz
    exact .inl (h2 d e' z hg F H x y s hd he Q q)
  | none =>
    simp only [hg] at hz
    exact .inr (h4 d e' z hz F H x y s hd he Q q)
def mOp (g : PyData → PyData → Option PyData) (ma mb : ME) : MV := fun ρ => match ma ρ with
  | some (r1, ρ1) => match mb ρ1 with
    | some (r2, ρ2) => match rd ρ2 r1, rd ρ2 r2 with
      | some d, some e => match g d e with
        | some z => some (z, ρ2)
        | none => none
      | _, _ => none
    | none => none
  | none => none
theorem mOp_some {g : PyData → PyData → Option PyData} {ma mb : ME} {ρ ρ' : DEnv} {z : PyData} (h : mOp g ma mb ρ = some (z, ρ')) :
    ∃ r1 ρ1 r2 d e, ma ρ = some (r1, ρ1) ∧ mb ρ1 = some (r2, ρ') ∧ rd ρ' r1 = some d ∧ rd ρ' r2 = some e ∧ g d e = some z := by
  unfold mOp at h
  split at h
  · rename_i r1 ρ1 h1
    split at h
    · rename_i r2 ρ2 h2
      split at h
      · rename_i d e hd he
        split at h
        · rename_i z' hz
          cases h
          exact ⟨r1, ρ1, r2, d, e, h1, h2, hd, he, hz⟩
        · cases h
      · cases h
    · cases h
  · cases h
theorem tOp_of {f : Value → Value → PySem.Sem Value} {g : PyData → PyData → Option PyData} (ho : OpD X f g) : ∃ r : R2, OpR X f r ∧ ∀ (ma mb : ME) σ H Q, tV X.K (mOp g ma mb) σ H Q → tOp r (tE X.K ma) (tE X.K mb) σ H Q := by
  obtain ⟨r, hr, hk⟩ := ho
  refine ⟨r, hr, fun ma mb σ H Q h => ?_⟩
  obtain ⟨F, ρ, α, z, ρ', w, hm, q⟩ := h
  obtain ⟨r1, ρ1, r2, d, e', h1, h2, hd, he, hz⟩ := mOp_some hm
  refine ⟨F, ρ, α, r1, ρ1, w, h1, fun x F1 H1 α1 w1 g1 k1 => ?_⟩
  refine ⟨F1, ρ1, α1, r2, ρ', w1, h2, fun y F2 H2 α2 w2 g2 k2 => ?_⟩
  refine hk d e' z hz F2 H2 x y w2.sub (rd_top w2 (k1.mono g2.f) hd) (rd_top w2 k2 he) Q fun v F3 H3 n rp => ?_
  exact q v F3 H3 α2 (w2.new n) ((g1.trans g2).trans n.gr) rp
theorem sv_op {op : Operator} {g : PyData → PyData → Option PyData} {ma mb : ME} (ho : OpD X (binaryOp op) g) (ha : SE X a ma) (hb : SE X b mb) : SV X (.BinOp a op b pos) (mOp g ma mb) := by
  obtain ⟨r, hr, hk⟩ := tOp_of ho
  exact PE.imp (pe_op hr ha hb) (hk ma mb)
theorem sv_cmp {op : CmpOp} {g : PyData → PyData → Option PyData} {ma mb : ME} (ho : OpD X (compareOp op) g) (ha : SE X a ma) (hb : SE X b mb) (hm : behindInMarks op b = false) : SV X (.Compare a [op] [b] pos) (mOp g ma mb) := by
  obtain ⟨r, hr, hk⟩ := tOp_of ho
  exact PE.imp (pe_cmpR hr ha hb hm) (hk ma mb)
/-- a bool as a test -/
def mTV (m : MV) : MT := fun ρ => match m ρ with
  | some (.bool b, ρ1) => some (b, ρ1)
  | _ => none
theorem mTV_some {m : MV} {ρ ρ' : DEnv} {b : Bool} (h : mTV m ρ = some (b, ρ')) : m ρ = some (.bool b, ρ') := by
  unfold mTV at h
  split at h
  · rename_i b' ρ1 h1
    cases h
    exact h1
  · cases h
theorem tTest_of {K : PySem.W.Frag} {m : MV} {t : TE} (h : ∀ σ H Q, tV K m σ H Q → t σ H Q) : ∀ σ H Q, tT K (mTV m) σ H Q → tTest t σ H Q := fun σ H Q q => by
  obtain ⟨F, ρ, α, b, ρ', w, hm, q⟩ := q
  refine h σ H _ ⟨F, ρ, α, .bool b, ρ', w, mTV_some hm, fun v F' H' α' w' g r => ?_⟩
  exact ⟨b, rep_bool.mp r, q F' H' α' w' g⟩
theorem st_cmp {op : CmpOp} {g : PyData → PyData → Option PyData} {ma mb : ME} (ho : OpD X (compareOp op) g) (ha : SE X a ma) (hb : SE X b mb) (hm : behindInMarks op b = false) : ST X (.Compare a [op] [b] pos) (mTV (mOp g ma mb)) := by
  obtain ⟨r, hr, hk⟩ := tOp_of ho
  exact PT.imp (pt_cmpR hr ha hb hm) (tTest_of (hk ma mb))
theorem st_val {m : MV} (h : SV X e m) (he : ∀ whole, isTrue e X.env whole = (do let v ← whole; standAt e.pos; holding [v] (truthy v)) := by intro _; rfl) : ST X e (mTV m) :=
  PT.imp (pt_val h he) (tTest_of fun _ _ _ z => z)
/-- a op b op' c -/
def mChain (g g' : PyData → PyData → Option PyData) (ma mb mc : ME) : MV := fun ρ => match ma ρ with
  | some (r1, ρ1) => match mb ρ1 with
    | some (r2, ρ2) => match rd ρ2 r1, rd ρ2 r2 with
      | some d, some e => match g d e with
        | some (.bool true) => match mc ρ2 with
          | some (r3, ρ3) => match rd ρ3 r2, rd ρ3 r3 with
            | some e', some c => match g' e' c with
              | some z => some (z, ρ3)
              | none => none
            | _, _ => none
          | none => none
        | some (.bool false) => some (.bool false, ρ2)
        | _ => none
      | _, _ => none
    | none => none
  | none => none
theorem tChain_of {f f' : Value → Value → PySem.Sem Value} {g g' : PyData → PyData → Option PyData} (ho : OpD X f g) (ho' : OpD X f' g') :
    ∃ r r' : R2, OpR X f r ∧ OpR X f' r' ∧ ∀ (ma mb mc : ME) σ H Q, tV X.K (mChain g g' ma mb mc) σ H Q → tChain r r' (tE X.K ma) (tE X.K mb) (tE X.K mc) σ H Q := by
  obtain ⟨r, hr, hk⟩ := ho
  obtain ⟨r', hr', hk'⟩ := ho'
  refine ⟨r, r', hr, hr', fun ma mb mc σ H Q h => ?_⟩
  obtain ⟨F, ρ, α, z, ρ', w, hm, q⟩ := h
  unfold mChain at hm
  split at hm
  · rename_i r1 ρ1 h1
    split at hm
    · rename_i r2 ρ2 h2
      split at hm
      · rename_i d e' hd he
        refine ⟨F, ρ, α, r1, ρ1, w, h1, fun x F1 H1 α1 w1 g1 k1 => ?_⟩
        refine ⟨F1, ρ1, α1, r2, ρ2, w1, h2, fun y F2 H2 α2 w2 g2 k2 => ?_⟩
        split at hm
        · rename_i hg
          refine hk d e' _ hg F2 H2 x y w2.sub (rd_top w2 (k1.mono g2.f) hd) (rd_top w2 k2 he) _ fun v F3 H3 n rp => ?_
          refine ⟨true, rep_bool.mp rp, ?_⟩
          refine iteT ?_
          have w3 := w2.new n
          have g3 := (g1.trans g2).trans (n.gr (α := α2))
          split at hm
          · rename_i r3 ρ3 h3
            split at hm
            · rename_i e2 c2 he2 hc2
              split at hm
              · rename_i z' hz
                cases hm
                refine ⟨F3, ρ2, α2, r3, ρ', w3, h3, fun y3 F4 H4 α4 w4 g4 k4 => ?_⟩
                refine hk' e2 c2 _ hz F4 H4 y y3 w4.sub (rd_top w4 (k2.mono (n.f.trans g4.f)) he2) (rd_top w4 k4 hc2) Q fun v F5 H5 n5 rp5 => ?_
                exact q v F5 H5 α4 (w4.new n5) ((g3.trans g4).trans n5.gr) rp5
              · cases hm
            · cases hm
          · cases hm
        · rename_i hg
          cases hm
          refine hk d e' _ hg F2 H2 x y w2.sub (rd_top w2 (k1.mono g2.f) hd) (rd_top w2 k2 he) _ fun v F3 H3 n rp => ?_
          refine ⟨false, rep_bool.mp rp, ?_⟩
          refine iteF ?_
          exact q (.bl false) F3 H3 α2 (w2.new n) ((g1.trans g2).trans n.gr) (rep_bool.mpr rfl)
        · cases hm
      · cases hm
    · cases hm
  · cases hm
theorem sv_chain {op op' : CmpOp} {g g' : PyData → PyData → Option PyData} {ma mb mc : ME} (ho : OpD X (compareOp op) g) (ho' : OpD X (compareOp op') g') (ha : SE X a ma) (hb : SE X b mb) (hc : SE X c mc)
    (hm : lastMarks [op, op'] [b, c] = false := by with_unfolding_all rfl) : SV X (.Compare a [op, op'] [b, c] pos) (mChain g g' ma mb mc) := by
  obtain ⟨r, r', h1, h2, hk⟩ := tChain_of ho ho'
  exact PE.imp (pe_chain h1 h2 ha hb hc hm) (hk ma mb mc)
theorem st_chain {op op' : CmpOp} {g g' : PyData → PyData → Option PyData} {ma mb mc : ME} (ho : OpD X (compareOp op) g) (ho' : OpD X (compareOp op') g') (ha : SE X a ma) (hb : SE X b mb) (hc : SE X c mc)
    (hm : lastMarks [op, op'] [b, c] = false := by with_unfolding_all rfl) : ST X (.Compare a [op, op'] [b, c] pos) (mTV (mChain g g' ma mb mc)) := by
  obtain ⟨r, r', h1, h2, hk⟩ := tChain_of ho ho'
  exact PT.imp (pt_chain h1 h2 ha hb hc hm) (tTest_of (hk ma mb mc))
/-- one value -/
def UnD (X : Cx) (f : Value → PySem.Sem Value) (g : PyData → Option PyData) : Prop := ∃ r : V → Hp → VK → Prop, UnR X f r ∧ ∀ d z, g d = some z → ∀ F H x, Same F H → Top X.K F H d x →
  ∀ Q : VK, (∀ v F' H', New F H F' H' → Rep X.K F' z v → Q v H') → r x H Q
def mUn (g : PyData → Option PyData) (ma : ME) : MV := fun ρ => match ma ρ with
  | some (r1, ρ1) => match rd ρ1 r1 with
    | some d => match g d with
      | some z => some (z, ρ1)
      | none => none
    | none => none
  | none => none
theorem mUn_some {g : PyData → Option PyData} {ma : ME} {ρ ρ' : DEnv} {z : PyData} (h : mUn g ma ρ = some (z, ρ')) : ∃ r1 d, ma ρ = some (r1, ρ') ∧ rd ρ' r1 = some d ∧ g d = some z := by
  unfold mUn at h
  split at h
  · rename_i r1 ρ1 h1
    split at h
    · rename_i d hd
      split at h
      · rename_i z' hz
        cases h
        exact ⟨r1, d, h1, hd, hz⟩
      · cases h
    · cases h
  · cases h
theorem sv_un {op : UnaryOp} {g : PyData → Option PyData} {ma : ME} (ho : UnD X (unaryOp op) g) (ha : SE X a ma) : SV X (.UnaryOp op a pos) (mUn g ma) := by
  obtain ⟨r, hr, hk⟩ := ho
  refine PE.imp (pe_un hr ha) fun σ H Q h => ?_
  obtain ⟨F, ρ, α, z, ρ', w, hm, q⟩ := h
  obtain ⟨r1, d, h1, hd, hz⟩ := mUn_some hm
  refine ⟨F, ρ, α, r1, ρ', w, h1, fun x F1 H1 α1 w1 g1 k1 => ?_⟩
  refine hk d z hz F1 H1 x w1.sub (rd_top w1 k1 hd) Q fun v F3 H3 n rp => ?_
  exact q v F3 H3 α1 (w1.new n) (g1.trans n.gr) rp

/-! ### and, or, not, if -/
def mAndT (ma mb : MT) : MT := fun ρ => match ma ρ with
  | some (true, ρ1) => mb ρ1
  | some (false, ρ1) => some (false, ρ1)
  | none => none
def mOrT (ma mb : MT) : MT := fun ρ => match ma ρ with
  | some (true, ρ1) => some (true, ρ1)
  | some (false, ρ1) => mb ρ1
  | none => none
def mNotT (ma : MT) : MT := fun ρ => match ma ρ with
  | some (b, ρ1) => some (!b, ρ1)
  | none => none
abbrev SW (X : Cx) (e : Expr) (m : MT) : Prop := PW X e (tT X.K m)
theorem st_sw {m : MT} (h : SW X e m) : ST X e m := PW.pt h
theorem sw_and1 {ma : MT} (ha : ST X a ma) : SW X (.BoolOp .And [a] pos) ma := pw_and1 ha
theorem sw_or1 {ma : MT} (ha : ST X a ma) : SW X (.BoolOp .Or [a] pos) ma := pw_or1 ha
theorem sw_and {rest : List Expr} {ma mb : MT} (ha : ST X a ma) (hb : SW X (.BoolOp .And (b :: rest) pos) mb) : SW X (.BoolOp .And (a :: b :: rest) pos) (mAndT ma mb) := PW.imp (pw_and ha hb) fun σ H Q h => by
  obtain ⟨F, ρ, α, z, ρ', w, hm, q⟩ := h
  unfold mAndT at hm
  split at hm
  · rename_i ρ1 h1
    refine ⟨F, ρ, α, true, ρ1, w, h1, fun F1 H1 α1 w1 g1 => ?_⟩
    refine iteT ?_
    exact ⟨F1, ρ1, α1, z, ρ', w1, hm, fun F2 H2 α2 w2 g2 => q F2 H2 α2 w2 (g1.trans g2)⟩
  · rename_i ρ1 h1
    cases hm
    refine ⟨F, ρ, α, false, ρ', w, h1, fun F1 H1 α1 w1 g1 => ?_⟩
    refine iteF ?_
    exact q F1 H1 α1 w1 g1
  · cases hm
theorem sw_or {rest : List Expr} {ma mb : MT} (ha : ST X a ma) (hb : SW X (.BoolOp .Or (b :: rest) pos) mb) : SW X (.BoolOp .Or (a :: b :: rest) pos) (mOrT ma mb) := PW.imp (pw_or ha hb) fun σ H Q h => by
  obtain ⟨F, ρ, α, z, ρ', w, hm, q⟩ := h
  unfold mOrT at hm
  split at hm
  · rename_i ρ1 h1
    cases hm
    refine ⟨F, ρ, α, true, ρ', w, h1, fun F1 H1 α1 w1 g1 => ?_⟩
    refine iteT ?_
    exact q F1 H1 α1 w1 g1
  · rename_i ρ1 h1
    refine ⟨F, ρ, α, false, ρ1, w, h1, fun F1 H1 α1 w1 g1 => ?_⟩
    refine iteF ?_
    exact ⟨F1, ρ1, α1, z, ρ', w1, hm, fun F2 H2 α2 w2 g2 => q F2 H2 α2 w2 (g1.trans g2)⟩
  · cases hm
theorem st_not {ma : MT} (ha : ST X a ma) : ST X (.UnaryOp .Not a pos) (mNotT ma) := PT.imp (pt_not ha) fun σ H Q h => by
  obtain ⟨F, ρ, α, z, ρ', w, hm, q⟩ := h
  unfold mNotT at hm
  split at hm
  · rename_i b' ρ1 h1
    cases hm
    exact ⟨F, ρ, α, b', ρ', w, h1, fun F1 H1 α1 w1 g1 => q F1 H1 α1 w1 g1⟩
  · cases hm
/-- as values -/
def mAndV (ma mb : MV) : MV := fun ρ => match ma ρ with
  | some (.bool true, ρ1) => mb ρ1
  | some (.bool false, ρ1) => some (.bool false, ρ1)
  | _ => none
def mOrV (ma mb : MV) : MV := fun ρ => match ma ρ with
  | some (.bool true, ρ1) => some (.bool true, ρ1)
  | some (.bool false, ρ1) => mb ρ1
  | _ => none
def mNotV (ma : MV) : MV := fun ρ => match ma ρ with
  | some (.bool b, ρ1) => some (.bool (!b), ρ1)
  | _ => none
theorem sv_one {op} {m : MV} (h : SV X a m) : SV X (.BoolOp op [a] pos) m := pe_one h
theorem sv_and {rest : List Expr} {ma mb : MV} (ha : SV X a ma) (hb : SV X (.BoolOp .And (b :: rest) pos) mb) : SV X (.BoolOp .And (a :: b :: rest) pos) (mAndV ma mb) := PE.imp (pe_and ha hb) fun σ H Q h => by
  obtain ⟨F, ρ, α, z, ρ', w, hm, q⟩ := h
  unfold mAndV at hm
  split at hm
  · rename_i ρ1 h1
    refine ⟨F, ρ, α, _, ρ1, w, h1, fun v F1 H1 α1 w1 g1 r => ⟨true, rep_bool.mp r, ?_⟩⟩
    refine iteT ?_
    exact ⟨F1, ρ1, α1, z, ρ', w1, hm, fun v F2 H2 α2 w2 g2 => q v F2 H2 α2 w2 (g1.trans g2)⟩
  · rename_i ρ1 h1
    cases hm
    refine ⟨F, ρ, α, _, ρ', w, h1, fun v F1 H1 α1 w1 g1 r => ⟨false, rep_bool.mp r, ?_⟩⟩
    refine iteF ?_
    exact q _ F1 H1 α1 w1 g1 (rep_bool.mpr rfl)
  · cases hm
theorem sv_or {rest : List Expr} {ma mb : MV} (ha : SV X a ma) (hb : SV X (.BoolOp .Or (b :: rest) pos) mb) : SV X (.BoolOp .Or (a :: b :: rest) pos) (mOrV ma mb) := PE.imp (pe_or ha hb) fun σ H Q h => by
  obtain ⟨F, ρ, α, z, ρ', w, hm, q⟩ := h
  unfold mOrV at hm
  split at hm
  · rename_i ρ1 h1
    cases hm
    refine ⟨F, ρ, α, _, ρ', w, h1, fun v F1 H1 α1 w1 g1 r => ⟨true, rep_bool.mp r, ?_⟩⟩
    refine iteT ?_
    exact q _ F1 H1 α1 w1 g1 (rep_bool.mpr rfl)
  · rename_i ρ1 h1
    refine ⟨F, ρ, α, _, ρ1, w, h1, fun v F1 H1 α1 w1 g1 r => ⟨false, rep_bool.mp r, ?_⟩⟩
    refine iteF ?_
    exact ⟨F1, ρ1, α1, z, ρ', w1, hm, fun v F2 H2 α2 w2 g2 => q v F2 H2 α2 w2 (g1.trans g2)⟩
  · cases hm
theorem sv_not {ma : MV} (ha : SV X a ma) : SV X (.UnaryOp .Not a pos) (mNotV ma) := PE.imp (pe_not ha) fun σ H Q h => by
  obtain ⟨F, ρ, α, z, ρ', w, hm, q⟩ := h
  unfold mNotV at hm
  split at hm
  · rename_i b' ρ1 h1
    cases hm
    exact ⟨F, ρ, α, _, ρ', w, h1, fun v F1 H1 α1 w1 g1 r => ⟨b', rep_bool.mp r, q _ F1 H1 α1 w1 g1 (rep_bool.mpr rfl)⟩⟩
  · cases hm
def mIf {β : Type} (mt : MT) (ma mb : DEnv → Option β) : DEnv → Option β := fun ρ => match mt ρ with
  | some (true, ρ1) => ma ρ1
  | some (false, ρ1) => mb ρ1
  | none => none
theorem sv_if {mt : MT} {ma mb : MV} (hc : ST X c mt) (ha : SV X a ma) (hb : SV X b mb) : SV X (.IfExp c a b pos) (mIf mt ma mb) := PE.imp (pe_ifExp hc ha hb) fun σ H Q h => by
  obtain ⟨F, ρ, α, z, ρ', w, hm, q⟩ := h
  unfold mIf at hm
  split at hm
  · rename_i ρ1 h1
    refine ⟨F, ρ, α, true, ρ1, w, h1, fun F1 H1 α1 w1 g1 => ?_⟩
    refine iteT ?_
    exact ⟨F1, ρ1, α1, z, ρ', w1, hm, fun v F2 H2 α2 w2 g2 => q v F2 H2 α2 w2 (g1.trans g2)⟩
  · rename_i ρ1 h1
    refine ⟨F, ρ, α, false, ρ1, w, h1, fun F1 H1 α1 w1 g1 => ?_⟩
    refine iteF ?_
    exact ⟨F1, ρ1, α1, z, ρ', w1, hm, fun v F2 H2 α2 w2 g2 => q v F2 H2 α2 w2 (g1.trans g2)⟩
  · cases hm

/-! ### argument lists, displays -/
def mA0 : MA := fun ρ => some ([], ρ)
def mA1 (m : ME) (ma : MA) : MA := fun ρ => match m ρ with
  | some (r, ρ1) => match ma ρ1 with
    | some (rs, ρ2) => some (r :: rs, ρ2)
    | none => none
  | none => none
def mL0 : ML := fun ρ => some ([], ρ)
def mL1 (m : MV) (ma : ML) : ML := fun ρ => match m ρ with
  | some (r, ρ1) => match ma ρ1 with
    | some (rs, ρ2) => some (r :: rs, ρ2)
    | none => none
  | none => none
theorem ArgsOk.mono {K : PySem.W.Frag} {F F' : Hp} {σ : L2.St} (e : Same F F') : ∀ {rs : List R} {vs : List V}, ArgsOk K F σ rs vs → ArgsOk K F' σ rs vs
  | [], _, h => h
  | r :: rs, vs, ⟨v, vr, h1, h2, h3⟩ => ⟨v, vr, h1, h2.mono e, h3.mono e⟩
theorem sa_nil : SA X [] mA0 := PA.imp pa_nil fun σ H Q h => by
  obtain ⟨F, ρ, α, z, ρ', w, hm, q⟩ := h
  cases hm
  exact q [] F H α w Gr.refl rfl
theorem sa_cons {m : ME} {ma : MA} (ha : SE X e m) (hr : SA X es ma) (hs : starEach (e :: es) X.env = (false, eval e X.env) :: starEach es X.env := by rfl) : SA X (e :: es) (mA1 m ma) := PA.imp (pa_cons ha hr hs) fun σ H Q h => by
  obtain ⟨F, ρ, α, z, ρ', w, hm, q⟩ := h
  unfold mA1 at hm
  split at hm
  · rename_i r ρ1 h1
    split at hm
    · rename_i rs ρ2 h2
      cases hm
      refine ⟨F, ρ, α, r, ρ1, w, h1, fun v F1 H1 α1 w1 g1 k1 => ?_⟩
      exact ⟨F1, ρ1, α1, rs, ρ', w1, h2, fun vs F2 H2 α2 w2 g2 k2 => q (v :: vs) F2 H2 α2 w2 (g1.trans g2) ⟨v, vs, rfl, k1.mono g2.f, k2⟩⟩
    · cases hm
  · cases hm
theorem sl_nil : SL X [] mL0 := PA.imp pa_nil fun σ H Q h => by
  obtain ⟨F, ρ, α, z, ρ', w, hm, q⟩ := h
  cases hm
  exact q [] F H α w Gr.refl (repL_nil.mpr rfl)
theorem sl_cons {m : MV} {ma : ML} (ha : SV X e m) (hr : SL X es ma) (hs : starEach (e :: es) X.env = (false, eval e X.env) :: starEach es X.env := by rfl) : SL X (e :: es) (mL1 m ma) := PA.imp (pa_cons ha hr hs) fun σ H Q h => by
  obtain ⟨F, ρ, α, z, ρ', w, hm, q⟩ := h
  unfold mL1 at hm
  split at hm
  · rename_i r ρ1 h1
    split at hm
    · rename_i rs ρ2 h2
      cases hm
      refine ⟨F, ρ, α, r, ρ1, w, h1, fun v F1 H1 α1 w1 g1 k1 => ?_⟩
      exact ⟨F1, ρ1, α1, rs, ρ', w1, h2, fun vs F2 H2 α2 w2 g2 k2 => q (v :: vs) F2 H2 α2 w2 (g1.trans g2) (repL_cons.mpr ⟨v, vs, rfl, Rep.mono g2.f _ _ k1, k2⟩)⟩
    · cases hm
  · cases hm
def small (n : Nat) : Bool := decide (n ≤ 16777216)
theorem small_line {n : Nat} (h : small n = true) : n ≤ sizeLine := by
  have h' := of_decide_eq_true h
  rw [sizeLine_eq]
  exact h'
def mTup (ma : ML) : MV := fun ρ => match ma ρ with
  | some (ds, ρ1) => if small ds.length then some (.tuple ds, ρ1) else none
  | none => none
def mLst (ma : ML) : MO := fun ρ => match ma ρ with
  | some (ds, ρ1) => if small ds.length then some (.lst ds, ρ1) else none
  | none => none
theorem sv_tup {x1} {ma : ML} (h : SL X es ma) : SV X (.Tuple es x1 pos) (mTup ma) := PE.imp (pe_tup h) fun σ H Q h => by
  obtain ⟨F, ρ, α, z, ρ', w, hm, q⟩ := h
  unfold mTup at hm
  split at hm
  · rename_i ds ρ1 h1
    split at hm
    · rename_i hz
      cases hm
      refine ⟨F, ρ, α, ds, ρ', w, h1, fun vs F1 H1 α1 w1 g1 k1 => ⟨by rw [k1.length]; exact small_line hz, fun p hp => ?_⟩⟩
      have n := New.laid (o := .tup vs) w1.sub hp
      exact q (.ref p) _ _ α1 (w1.new n) (g1.trans n.gr) (rep_tuple.mpr ⟨p, vs, rfl, SqT.of upd_same, RepL.mono n.f _ _ k1⟩)
    · cases hm
  · cases hm
/-- a fresh object that is one's own -/
theorem Wd.laidH {K : PySem.W.Frag} {F H : Hp} {ρ : DEnv} {σ : L2.St} {α : Nat → List Addr} {p : Addr} {o : HO} (w : Wd K F H ρ σ α) (h : H p = none) : Wd K F (upd H p o) ρ σ α ∧ Gr F H α F (upd H p o) α ∧ F p = none ∧ ∀ i, p ∉ α i := by
  have s1 : Same H (upd H p o) := fun a u e => by
    rw [upd_ne (ne_of_none e h)]
    exact e
  refine ⟨⟨w.sub.trans s1, w.len, fun i t ht => ?_, w.free, w.disj, fun i q hq => ?_⟩, ⟨⟨Same.refl F, fun q u e n => (by rw [e] at n; cases n), fun q u e _ => s1 _ _ e, fun q u e => ⟨u, s1 _ _ e⟩, fun i q hq => .inl ⟨i, hq⟩⟩, fun _ _ h => .inl h⟩, none_of_some fun u q => ?_, fun i hi => ?_⟩
  · obtain ⟨v, h1, h2⟩ := w.slot i t ht
    exact ⟨v, h1, h2.frame (Same.refl F) fun q _ u e => s1 _ _ e⟩
  · obtain ⟨u, hu⟩ := w.live i q hq
    exact ⟨u, s1 _ _ hu⟩
  · rw [w.sub _ _ q] at h; cases h
  · obtain ⟨u, hu⟩ := w.live i p hi
    rw [h] at hu; cases hu
theorem so_lst {ma : ML} (h : SL X es ma) : SO X (.List es pos) (mLst ma) := PE.imp (pe_lst h) fun σ H Q h => by
  obtain ⟨F, ρ, α, z, ρ', w, hm, q⟩ := h
  unfold mLst at hm
  split at hm
  · rename_i ds ρ1 h1
    split at hm
    · rename_i hz
      cases hm
      refine ⟨F, ρ, α, ds, ρ', w, h1, fun vs F1 H1 α1 w1 g1 k1 => ⟨by rw [k1.length]; exact small_line hz, fun p hp => ?_⟩⟩
      obtain ⟨w2, g2, f2, n2⟩ := w1.laidH (o := .lst vs) hp
      refine q (.ref p) _ _ α1 [p] w2 (g1.trans g2) ⟨p, vs, rfl, rfl, upd_same, k1⟩ fun r hr => ?_
      have e' : r = p := by simpa using hr
      subst e'
      exact ⟨f2, none_of_some fun u hu => (by obtain ⟨u', hu'⟩ := g1.k _ _ hu; rw [hp] at hu'; cases hu'), n2⟩
    · cases hm
  · cases hm

/-! ### calls of built-ins by values -/
def TopL (K : PySem.W.Frag) (F H : Hp) : List PyData → List V → Prop
  | [], vs => vs = []
  | d :: ds, vs => ∃ v r, vs = v :: r ∧ Top K F H d v ∧ TopL K F H ds r
def rdL (ρ : DEnv) : List R → Option (List PyData)
  | [] => some []
  | r :: rs => match rd ρ r, rdL ρ rs with
    | some d, some ds => some (d :: ds)
    | _, _ => none
theorem rdL_top {K : PySem.W.Frag} {F H : Hp} {ρ : DEnv} {σ : L2.St} {α : Nat → List Addr} (w : Wd K F H ρ σ α) : ∀ {rs : List R} {vs : List V} {ds : List PyData}, ArgsOk K F σ rs vs → rdL ρ rs = some ds → TopL K F H ds vs
  | [], vs, ds, h, e => by
    cases e
    exact h
  | r :: rs, vs, ds, ⟨v, vr, h1, h2, h3⟩, e => by
    unfold rdL at e
    split at e
    · rename_i d ds' hd hds
      cases e
      exact ⟨v, vr, h1, rd_top w h2 hd, rdL_top w h3 hds⟩
    · cases e
def CallD (X : Cx) (f : Value) (g : List PyData → Option PyData) : Prop := ∃ r : List V → Hp → VK → Prop, CallR X f r ∧ ∀ ds z, g ds = some z → ∀ F H vs, Same F H → TopL X.K F H ds vs →
  ∀ Q : VK, (∀ v F' H', New F H F' H' → Rep X.K F' z v → Q v H') → r vs H Q
def mCall (g : List PyData → Option PyData) (ma : MA) : MV := fun ρ => match ma ρ with
  | some (rs, ρ1) => match rdL ρ1 rs with
    | some ds => match g ds with
      | some z => some (z, ρ1)
      | none => none
    | none => none
  | none => none
theorem mCall_some {g : List PyData → Option PyData} {ma : MA} {ρ ρ' : DEnv} {z : PyData} (h : mCall g ma ρ = some (z, ρ')) : ∃ rs ds, ma ρ = some (rs, ρ') ∧ rdL ρ' rs = some ds ∧ g ds = some z := by
  unfold mCall at h
  split at h
  · rename_i r1 ρ1 h1
    split at h
    · rename_i d hd
      split at h
      · rename_i z' hz
        cases h
        exact ⟨r1, d, h1, hd, hz⟩
      · cases h
    · cases h
  · cases h
theorem tCB_of {g : List PyData → Option PyData} {ma : MA} {r : List V → Hp → VK → Prop} (hk : ∀ ds z, g ds = some z → ∀ F H vs, Same F H → TopL X.K F H ds vs → ∀ Q : VK, (∀ v F' H', New F H F' H' → Rep X.K F' z v → Q v H') → r vs H Q) :
    ∀ σ H Q, tV X.K (mCall g ma) σ H Q → tCB r (tA X.K ma) σ H Q := fun σ H Q h => by
  obtain ⟨F, ρ, α, z, ρ', w, hm, q⟩ := h
  obtain ⟨rs, ds, h1, hd, hz⟩ := mCall_some hm
  refine ⟨F, ρ, α, rs, ρ', w, h1, fun vs F1 H1 α1 w1 g1 k1 => ?_⟩
  refine hk ds z hz F1 H1 vs w1.sub (rdL_top w1 k1 hd) Q fun v F3 H3 n rp => ?_
  exact q v F3 H3 α1 (w1.new n) (g1.trans n.gr) rp
end
end Sem
-- SemC
/-! SemC: statements, loops, comprehensions; what a def promises, its call. -/
namespace Sem
open PySem L2

inductive Out where
  | nx
  | ret (t : T)
  | bk
  | ct
abbrev MS := DEnv → Option (Out × DEnv)
/-- the slots at rts hold what they held -/
def Kp (rts : List Nat) (F' : Hp) (σ : L2.St) (α : Nat → List Addr) (σ' : L2.St) (α' : Nat → List Addr) : Prop := σ'.length = σ.length ∧ ∀ i ∈ rts, σ'[i]? = σ[i]? ∧ ∀ p ∈ α i, p ∈ α' i ∨ ∃ u, F' p = some u
def EndOk (K : PySem.W.Frag) (rts : List Nat) (F H : Hp) (σ : L2.St) (α : Nat → List Addr) (o : Out) (ρ' : DEnv) (D : Ends) : Prop :=
  match o with
  | .nx => ∀ σ' F' H' α', Wd K F' H' ρ' σ' α' → GS F H α F' H' α' → Kp rts F' σ α σ' α' → D.nx σ' H'
  | .bk => ∀ σ' F' H' α', Wd K F' H' ρ' σ' α' → GS F H α F' H' α' → Kp rts F' σ α σ' α' → D.bk σ' H'
  | .ct => ∀ σ' F' H' α', Wd K F' H' ρ' σ' α' → GS F H α F' H' α' → Kp rts F' σ α σ' α' → D.ct σ' H'
  | .ret t => ∀ v σ' F' H' α' B, Wd K F' H' ρ' σ' α' → GS F H α F' H' α' → Kp rts F' σ α σ' α' → Own K F' H' t v B → (∀ p ∈ B, F' p = none ∧ (H p = none ∨ ∃ i, p ∈ α i) ∧ ∀ i, p ∉ α' i) → D.rt v H'
def tS (K : PySem.W.Frag) (rts : List Nat) (m : MS) : TS := fun D σ H => ∃ F ρ α o ρ', Wd K F H ρ σ α ∧ m ρ = some (o, ρ') ∧ EndOk K rts F H σ α o ρ' D
abbrev SS (X : Cx) (rts : List Nat) (st : Stmt) (m : MS) : Prop := PS X st (tS X.K rts m)
abbrev SB (X : Cx) (rts : List Nat) (st : List Stmt) (m : MS) : Prop := PSs X st (tS X.K rts m)

section
variable {K : PySem.W.Frag} {rts : List Nat} {F H F1 H1 F2 H2 : Hp} {ρ ρ' : DEnv} {σ σ1 σ2 : L2.St} {α α1 α2 : Nat → List Addr} {o : Out} {D : Ends}
theorem Kp.of (g : Gr F H α F1 H1 α1) : Kp rts F1 σ α σ α1 := ⟨rfl, fun i _ => ⟨rfl, fun p hp => g.o i p hp⟩⟩
theorem Kp.refl : Kp rts F σ α σ α := ⟨rfl, fun i _ => ⟨rfl, fun p hp => .inl hp⟩⟩
theorem Kp.trans (f : Same F1 F2) (a : Kp rts F1 σ α σ1 α1) (b : Kp rts F2 σ1 α1 σ2 α2) : Kp rts F2 σ α σ2 α2 := ⟨b.1.trans a.1, fun i hi => ⟨((b.2 i hi).1).trans (a.2 i hi).1, fun p hp => by
  rcases (a.2 i hi).2 p hp with q | ⟨u, q⟩
  · exact (b.2 i hi).2 p q
  · exact .inr ⟨u, f _ _ q⟩⟩⟩
theorem GS.back (g : GS F H α F1 H1 α1) {p : Addr} (h : H1 p = none ∨ ∃ i, p ∈ α1 i) : H p = none ∨ ∃ i, p ∈ α i := by
  rcases h with h | ⟨i, h⟩
  · refine .inl (none_of_some fun u e => ?_)
    obtain ⟨u', e'⟩ := g.k _ _ e
    rw [h] at e'
    cases e'
  · rcases g.a i p h with h | h
    · exact .inr h
    · exact .inl h
theorem EndOk.from (e : EndOk K rts F H σ α o ρ' D) (g : GS F H α F1 H1 α1) (k : Kp rts F1 σ α σ1 α1) : EndOk K rts F1 H1 σ1 α1 o ρ' D := by
  cases o with
  | nx => exact fun σ' F' H' α' w g' k' => e σ' F' H' α' w (g.trans g') (k.trans g'.f k')
  | bk => exact fun σ' F' H' α' w g' k' => e σ' F' H' α' w (g.trans g') (k.trans g'.f k')
  | ct => exact fun σ' F' H' α' w g' k' => e σ' F' H' α' w (g.trans g') (k.trans g'.f k')
  | ret t => exact fun v σ' F' H' α' B w g' k' ow hB => e v σ' F' H' α' B w (g.trans g') (k.trans g'.f k') ow fun p hp => ⟨(hB p hp).1, g.back (hB p hp).2.1, (hB p hp).2.2⟩
/-- a slot takes data -/
theorem Wd.setD {i : Nat} {d : PyData} {v : V} (w : Wd K F H ρ σ α) (r : Rep K F d v) (hi : i ∉ rts) : ∃ α', Wd K F H (ρ.set i (some (.dat d))) (σ.set i (some v)) α' ∧ GS F H α F H α' ∧ Kp rts F σ α (σ.set i (some v)) α' := by
  refine ⟨fun j => if j = i then [] else α j, ⟨w.sub, by rw [List.length_set, List.length_set]; exact w.len, fun j t ht => ?_, fun j q hq => ?_, fun j k q hj hk => ?_, fun j q hq => ?_⟩, ⟨Same.refl F, fun q o e n => (by rw [e] at n; cases n), fun q o e n => e, fun q o e => ⟨o, e⟩, fun j q hq => ?_⟩, List.length_set, fun j hj => ?_⟩
  · by_cases z : j = i
    · subst z
      have hl : j < ρ.length := by
        have := (List.getElem?_eq_some_iff.mp ht).1
        rw [List.length_set] at this
        exact this
      rw [List.getElem?_set_self hl] at ht
      cases ht
      exact ⟨v, List.getElem?_set_self (by rw [w.len]; exact hl), r, by simp⟩
    · rw [List.getElem?_set_ne (Ne.symm z)] at ht
      obtain ⟨u, g1, g2⟩ := w.slot j _ ht
      refine ⟨u, by rw [List.getElem?_set_ne (Ne.symm z)]; exact g1, ?_⟩
      simp only [if_neg z]
      exact g2
  · by_cases z : j = i
    · simp only [if_pos z] at hq; cases hq
    · simp only [if_neg z] at hq; exact w.free j q hq
  · by_cases z : j = i
    · simp only [if_pos z] at hj; cases hj
    · simp only [if_neg z] at hj
      by_cases z2 : k = i
      · simp only [if_pos z2] at hk; cases hk
      · simp only [if_neg z2] at hk
        exact w.disj j k q hj hk
  · by_cases z : j = i
    · simp only [if_pos z] at hq; cases hq
    · simp only [if_neg z] at hq; exact w.live j q hq
  · by_cases z : j = i
    · simp only [if_pos z] at hq; cases hq
    · simp only [if_neg z] at hq; exact .inl ⟨j, hq⟩
  · have z : j ≠ i := fun e => hi (e ▸ hj)
    refine ⟨List.getElem?_set_ne (Ne.symm z), fun p hp => .inl ?_⟩
    simp only [if_neg z]
    exact hp
/-- a slot takes what is one's own and fresh -/
theorem Wd.setO {i : Nat} {t : T} {v : V} {B : List Addr} (w : Wd K F H ρ σ α) (r : Own K F H t v B) (hB : ∀ p ∈ B, F p = none ∧ ∀ i, p ∉ α i) (hi : i ∉ rts) :
    ∃ α', Wd K F H (ρ.set i (some t)) (σ.set i (some v)) α' ∧ (∀ j p, p ∈ α' j → p ∈ α j ∨ p ∈ B) ∧ Kp rts F σ α (σ.set i (some v)) α' := by
  refine ⟨fun j => if j = i then B else α j, ⟨w.sub, by rw [List.length_set, List.length_set]; exact w.len, fun j t' ht => ?_, fun j q hq => ?_, fun j k q hj hk => ?_, fun j q hq => ?_⟩, fun j q hq => ?_, List.length_set, fun j hj => ?_⟩
  · by_cases z : j = i
    · subst z
      have hl : j < ρ.length := by
        have := (List.getElem?_eq_some_iff.mp ht).1
        rw [List.length_set] at this
        exact this
      rw [List.getElem?_set_self hl] at ht
      cases ht
      refine ⟨v, List.getElem?_set_self (by rw [w.len]; exact hl), ?_⟩
      simp only [if_pos rfl]
      exact r
    · rw [List.getElem?_set_ne (Ne.symm z)] at ht
      obtain ⟨u, g1, g2⟩ := w.slot j _ ht
      refine ⟨u, by rw [List.getElem?_set_ne (Ne.symm z)]; exact g1, ?_⟩
      simp only [if_neg z]
      exact g2
  · by_cases z : j = i
    · simp only [if_pos z] at hq; exact (hB q hq).1
    · simp only [if_neg z] at hq; exact w.free j q hq
  · by_cases z : j = i
    · simp only [if_pos z] at hj
      by_cases z2 : k = i
      · rw [z, z2]
      · simp only [if_neg z2] at hk
        exact absurd hk ((hB q hj).2 k)
    · simp only [if_neg z] at hj
      by_cases z2 : k = i
      · simp only [if_pos z2] at hk
        exact absurd hj ((hB q hk).2 j)
      · simp only [if_neg z2] at hk
        exact w.disj j k q hj hk
  · by_cases z : j = i
    · simp only [if_pos z] at hq; exact r.live q hq
    · simp only [if_neg z] at hq; exact w.live j q hq
  · by_cases z : j = i
    · simp only [if_pos z] at hq; exact .inr hq
    · simp only [if_neg z] at hq; exact .inl hq
  · have z : j ≠ i := fun e => hi (e ▸ hj)
    refine ⟨List.getElem?_set_ne (Ne.symm z), fun p hp => .inl ?_⟩
    simp only [if_neg z]
    exact hp
/-- a list of one's own is written -/
theorem Wd.write {i : Nat} {ds ds' : List PyData} {p : Addr} {vs vs' : List V} (w : Wd K F H ρ σ α) (h : ρ[i]? = some (some (.lst ds))) (hv : σ[i]? = some (some (.ref p))) (hp : H p = some (.lst vs)) (r : RepL K F ds' vs') :
    Wd K F (upd H p (.lst vs')) (ρ.set i (some (.lst ds'))) σ α ∧ Gr F H α F (upd H p (.lst vs')) α := by
  obtain ⟨u, h1, p', ws, h2, h3, h4, h5⟩ := w.slot i _ h
  rw [hv] at h1
  cases h1
  cases h2
  have hpi : p ∈ α i := by rw [h3]; simp
  have hF : F p = none := w.free i p hpi
  refine ⟨⟨fun a o e => ?_, by rw [List.length_set]; exact w.len, fun j t ht => ?_, w.free, w.disj, fun j q hq => ?_⟩, ⟨⟨Same.refl F, fun q o e n => (by rw [e] at n; cases n), fun q o e n => ?_, fun q o e => ?_, fun j q hq => .inl ⟨j, hq⟩⟩, fun _ _ h => .inl h⟩⟩
  · have ne : a ≠ p := ne_of_none e hF
    rw [upd_ne ne]
    exact w.sub _ _ e
  · by_cases z : j = i
    · subst z
      obtain ⟨hl, _⟩ := List.getElem?_eq_some_iff.mp h
      rw [List.getElem?_set_self hl] at ht
      cases ht
      exact ⟨.ref p, hv, p, vs', rfl, h3, upd_same, r⟩
    · rw [List.getElem?_set_ne (Ne.symm z)] at ht
      obtain ⟨u, g1, g2⟩ := w.slot j _ ht
      refine ⟨u, g1, g2.frame (Same.refl F) fun q hq o e => ?_⟩
      have ne : q ≠ p := fun e' => z (w.disj j i q hq (by rw [e']; exact hpi))
      rw [upd_ne ne]
      exact e
  · by_cases z : q = p
    · subst z
      exact ⟨_, upd_same⟩
    · rw [upd_ne z]
      exact w.live j q hq
  · have ne : q ≠ p := fun e' => n i (by rw [e']; exact hpi)
    rw [upd_ne ne]
    exact e
  · by_cases z : q = p
    · subst z
      exact ⟨_, upd_same⟩
    · rw [upd_ne z]
      exact ⟨o, e⟩
end

section
variable {X : Cx} {rts : List Nat} {st : Stmt} {rest : List Stmt} {e : Expr} {pos : Pos}
/-! ### blocks -/
def mNx : MS := fun ρ => some (.nx, ρ)
def mSeq (m1 m2 : MS) : MS := fun ρ => match m1 ρ with
  | some (.nx, ρ1) => m2 ρ1
  | x => x
theorem endNx {K : PySem.W.Frag} {F H : Hp} {σ : L2.St} {α : Nat → List Addr} {ρ : DEnv} {D : Ends} (w : Wd K F H ρ σ α) (e : EndOk K rts F H σ α .nx ρ D) : D.nx σ H := e σ F H α w GS.refl Kp.refl
theorem sb_nil : SB X rts [] mNx := PSs.imp pss_nil fun D σ H h => by
  obtain ⟨F, ρ, α, o, ρ', w, hm, q⟩ := h
  cases hm
  exact endNx w q
theorem sb_one {m : MS} (h : SS X rts st m) : SB X rts [st] m := pss_one h
theorem sb_cons {m1 m2 : MS} (h1 : SS X rts st m1) (h2 : SB X rts rest m2) : SB X rts (st :: rest) (mSeq m1 m2) := PSs.imp (pss_cons h1 h2) fun D σ H h => by
  obtain ⟨F, ρ, α, o, ρ', w, hm, q⟩ := h
  unfold mSeq at hm
  split at hm
  · rename_i ρ1 h1
    exact ⟨F, ρ, α, .nx, ρ1, w, h1, fun σ1 F1 H1 α1 w1 g1 k1 => ⟨F1, ρ1, α1, o, ρ', w1, hm, q.from g1 k1⟩⟩
  · rename_i x hx
    refine ⟨F, ρ, α, o, ρ', w, hm, ?_⟩
    cases o with
    | nx => exact absurd hm (hx ρ')
    | bk => exact q
    | ct => exact q
    | ret t => exact q
theorem ss_pass : SS X rts (.Pass pos) mNx := PS.imp ps_pass fun D σ H h => by
  obtain ⟨F, ρ, α, o, ρ', w, hm, q⟩ := h
  cases hm
  exact endNx w q
def mBk : MS := fun ρ => some (.bk, ρ)
def mCt : MS := fun ρ => some (.ct, ρ)
theorem ss_break : SS X rts (.Break pos) mBk := PS.imp ps_break fun D σ H h => by
  obtain ⟨F, ρ, α, o, ρ', w, hm, q⟩ := h
  cases hm
  exact q σ F H α w GS.refl Kp.refl
theorem ss_cont : SS X rts (.Continue pos) mCt := PS.imp ps_continue fun D σ H h => by
  obtain ⟨F, ρ, α, o, ρ', w, hm, q⟩ := h
  cases hm
  exact q σ F H α w GS.refl Kp.refl
/-- code that is never come to -/
def mNo : MS := fun _ => none
theorem ss_never : SS X rts st mNo := PS.imp ps_never fun D σ H h => by
  obtain ⟨F, ρ, α, o, ρ', w, hm, q⟩ := h
  cases hm
theorem sb_never {sts : List Stmt} : SB X rts sts mNo := PSs.imp pss_never fun D σ H h => by
  obtain ⟨F, ρ, α, o, ρ', w, hm, q⟩ := h
  cases hm

/-! ### name = value -/
def mAsg (i : Nat) (m : MV) : MS := fun ρ => match m ρ with
  | some (d, ρ1) => some (.nx, ρ1.set i (some (.dat d)))
  | none => none
theorem tAsgD {K : PySem.W.Frag} {i : Nat} {m : MV} (hi : rts.contains i = false) : ∀ (D : Ends) σ H, tS K rts (mAsg i m) D σ H → tAsg (tV K m) (gName i) D σ H := fun D σ H h => by
  obtain ⟨F, ρ, α, o, ρ', w, hm, q⟩ := h
  have hi' : i ∉ rts := fun z => by
    rw [List.contains_eq_mem] at hi
    exact of_decide_eq_false hi z
  unfold mAsg at hm
  split at hm
  · rename_i d ρ1 h1
    cases hm
    refine ⟨F, ρ, α, d, ρ1, w, h1, fun v F1 H1 α1 w1 g1 r1 => ?_⟩
    obtain ⟨α2, w2, g2, k2⟩ := w1.setD r1 hi'
    exact q _ F1 H1 α2 w2 (g1.toGS.trans g2) (Kp.trans (Same.refl F1) (Kp.of g1) k2)
  · cases hm
theorem ss_asg (i : Nat) {x : Str} {m : MV} {pos' : Pos} (hN : X.N.Nodup) (he : SV X e m) (hi : X.N[i]? = some x := by rfl) (hx : Loc X.env.scope x := by first | exact Or.inl rfl | exact Or.inr rfl) (hr : rts.contains i = false := by rfl)
    (hs : swapsWith e (some (.Name x pos')) pos.line X.env = pure false := by rfl) (hf : X.fn x = true ∨ X.env.scope.names.lookup x = some .local := by first | exact .inl rfl | exact .inr rfl | assumption) : SS X rts (.Assign [.Name x pos'] e pos) (mAsg i m) :=
  PS.imp (ps_set hN hi hx he hs hf) (tAsgD hr)
def mAsgO (i : Nat) (m : MO) : MS := fun ρ => match m ρ with
  | some (t, ρ1) => some (.nx, ρ1.set i (some t))
  | none => none
theorem tAsgO {K : PySem.W.Frag} {i : Nat} {m : MO} (hi : rts.contains i = false) : ∀ (D : Ends) σ H, tS K rts (mAsgO i m) D σ H → tAsg (tO K m) (gName i) D σ H := fun D σ H h => by
  obtain ⟨F, ρ, α, o, ρ', w, hm, q⟩ := h
  have hi' : i ∉ rts := fun z => by
    rw [List.contains_eq_mem] at hi
    exact of_decide_eq_false hi z
  unfold mAsgO at hm
  split at hm
  · rename_i d ρ1 h1
    cases hm
    refine ⟨F, ρ, α, d, ρ1, w, h1, fun v F1 H1 α1 B w1 g1 r1 hB => ?_⟩
    obtain ⟨α2, w2, g2, k2⟩ := w1.setO r1 (fun p hp => ⟨(hB p hp).1, (hB p hp).2.2⟩) hi'
    refine q _ F1 H1 α2 w2 ⟨g1.f, g1.n, fun p o e n => g1.h p o e n, g1.k, fun j p hp => ?_⟩ (Kp.trans (Same.refl F1) (Kp.of g1) k2)
    rcases g2 j p hp with z | z
    · exact g1.a j p z
    · exact .inr (hB p z).2.1
  · cases hm
theorem ss_asgO (i : Nat) {x : Str} {m : MO} {pos' : Pos} (hN : X.N.Nodup) (he : SO X e m) (hi : X.N[i]? = some x := by rfl) (hx : Loc X.env.scope x := by first | exact Or.inl rfl | exact Or.inr rfl) (hr : rts.contains i = false := by rfl)
    (hs : swapsWith e (some (.Name x pos')) pos.line X.env = pure false := by rfl) (hf : X.fn x = true ∨ X.env.scope.names.lookup x = some .local := by first | exact .inl rfl | exact .inr rfl | assumption) : SS X rts (.Assign [.Name x pos'] e pos) (mAsgO i m) :=
  PS.imp (ps_set hN hi hx he hs hf) (tAsgO hr)

/-! ### targets -/
def tG (K : PySem.W.Frag) (rts : List Nat) (g : PyData → DEnv → Option DEnv) : TG := fun v σ H Q => ∃ F ρ α d ρ', Wd K F H ρ σ α ∧ Rep K F d v ∧ g d ρ = some ρ' ∧ ∀ σ' α', Wd K F H ρ' σ' α' → GS F H α F H α' → Kp rts F σ α σ' α' → Q σ' H
def tGs (K : PySem.W.Frag) (rts : List Nat) (g : List PyData → DEnv → Option DEnv) : TGs := fun vs σ H Q => ∃ F ρ α ds ρ', Wd K F H ρ σ α ∧ RepL K F ds vs ∧ g ds ρ = some ρ' ∧ ∀ σ' α', Wd K F H ρ' σ' α' → GS F H α F H α' → Kp rts F σ α σ' α' → Q σ' H
abbrev SG (X : Cx) (rts : List Nat) (tg : Expr) (g : PyData → DEnv → Option DEnv) : Prop := PG X tg (tG X.K rts g)
abbrev SGs (X : Cx) (rts : List Nat) (tg : List Expr) (g : List PyData → DEnv → Option DEnv) : Prop := PGs X tg (tGs X.K rts g)
theorem PG.imp {tg : Expr} {t t' : TG} (h : PG X tg t) (i : ∀ v σ H Q, t' v σ H Q → t v σ H Q) : PG X tg t' := ⟨fun pins s σ H v u Q I r q => h.run pins s σ H v u Q I r (i v σ H Q q)⟩
theorem PGs.imp {tg : List Expr} {t t' : TGs} (h : PGs X tg t) (i : ∀ v σ H Q, t' v σ H Q → t v σ H Q) : PGs X tg t' := ⟨fun pins s σ H v u Q I r q => h.run pins s σ H v u Q I r (i v σ H Q q)⟩
def gN (i : Nat) : PyData → DEnv → Option DEnv := fun d ρ => some (ρ.set i (some (.dat d)))
theorem sg_name (i : Nat) {x : Str} (hN : X.N.Nodup) (hi : X.N[i]? = some x := by rfl) (hx : Loc X.env.scope x := by first | exact Or.inl rfl | exact Or.inr rfl) (hr : rts.contains i = false := by rfl)
    (hf : X.fn x = true ∨ X.env.scope.names.lookup x = some .local := by first | exact .inl rfl | exact .inr rfl | assumption) : SG X rts (.Name x pos) (gN i) := PG.imp (pg_name hN hi hx hf) fun v σ H Q h => by
  obtain ⟨F, ρ, α, d, ρ', w, rp, hm, q⟩ := h
  have hi' : i ∉ rts := fun z => by
    rw [List.contains_eq_mem] at hr
    exact of_decide_eq_false hr z
  cases hm
  obtain ⟨α2, w2, g2, k2⟩ := w.setD rp hi'
  exact q _ α2 w2 g2 k2
def gN0 : List PyData → DEnv → Option DEnv := fun ds ρ => match ds with
  | [] => some ρ
  | _ => none
def gN1 (g : PyData → DEnv → Option DEnv) (gs : List PyData → DEnv → Option DEnv) : List PyData → DEnv → Option DEnv := fun ds ρ => match ds with
  | d :: r => match g d ρ with
    | some ρ1 => gs r ρ1
    | none => none
  | [] => none
theorem sgs_nil : SGs X rts [] gN0 := PGs.imp pgs_nil fun vs σ H Q h => by
  obtain ⟨F, ρ, α, ds, ρ', w, rp, hm, q⟩ := h
  cases ds with
  | nil =>
    cases hm
    exact ⟨repL_nil.mp rp, q σ α w GS.refl Kp.refl⟩
  | cons d r => cases hm
theorem sgs_cons {es : List Expr} {g : PyData → DEnv → Option DEnv} {gs : List PyData → DEnv → Option DEnv} (h1 : SG X rts e g) (h2 : SGs X rts es gs) (hs : (assignEach (e :: es) X.env).map (·.2) = assign e X.env :: (assignEach es X.env).map (·.2) := by rfl) :
    SGs X rts (e :: es) (gN1 g gs) := PGs.imp (pgs_cons h1 h2 hs) fun vs σ H Q h => by
  obtain ⟨F, ρ, α, ds, ρ', w, rp, hm, q⟩ := h
  cases ds with
  | nil => cases hm
  | cons d r =>
    unfold gN1 at hm
    simp only at hm
    split at hm
    · rename_i ρ1 h1
      obtain ⟨v, vr, e1, r1, r2⟩ := repL_cons.mp rp
      refine ⟨v, vr, e1, F, ρ, α, d, ρ1, w, r1, h1, fun σ1 α1 w1 g1 k1 => ?_⟩
      exact ⟨F, ρ1, α1, r, ρ', w1, r2, hm, fun σ2 α2 w2 g2 k2 => q σ2 α2 w2 (g1.trans g2) (k1.trans (Same.refl F) k2)⟩
    · cases hm
def gT (n : Nat) (gs : List PyData → DEnv → Option DEnv) : PyData → DEnv → Option DEnv := fun d ρ => match d with
  | .tuple ds => if ds.length = n then gs ds ρ else none
  | _ => none
theorem sg_tup {es : List Expr} {k : Nat} {gs : List PyData → DEnv → Option DEnv} {n : Nat} (hc : X.calm = true) (h : SGs X rts es gs)
    (hn : (assignEach es X.env).length = n := by rfl) (hst : (assignEach es X.env).findIdx? (·.1) = none := by rfl) : SG X rts (.Tuple es k pos) (gT n gs) := PG.imp (pg_tup hc h hn hst) fun v σ H Q h => by
  obtain ⟨F, ρ, α, d, ρ', w, rp, hm, q⟩ := h
  cases d with
  | tuple ds =>
    unfold gT at hm
    simp only at hm
    split at hm
    · rename_i hl
      obtain ⟨a, vs, e1, h2, h3⟩ := rep_tuple.mp rp
      exact ⟨a, vs, e1, Same.tup w.sub h2, h3.length.trans hl, F, ρ, α, ds, ρ', w, h3, hm, q⟩
    · cases hm
  | _ => cases hm
def mAsgG (g : PyData → DEnv → Option DEnv) (m : MV) : MS := fun ρ => match m ρ with
  | some (d, ρ1) => match g d ρ1 with
    | some ρ2 => some (.nx, ρ2)
    | none => none
  | none => none
theorem ss_asgG {tg : Expr} {m : MV} {g : PyData → DEnv → Option DEnv} (he : SV X e m) (hg : SG X rts tg g) (hs : swapsWithSole [tg] e pos.line X.env = pure false := by rfl) (hw : swappedStores [tg] e X.env = pure none := by rfl)
    (h1 : (assignEach [tg] X.env).map (·.2) = [assign tg X.env] := by rfl) : SS X rts (.Assign [tg] e pos) (mAsgG g m) := PS.imp (ps_asg he hg hs hw h1) fun D σ H h => by
  obtain ⟨F, ρ, α, o, ρ', w, hm, q⟩ := h
  unfold mAsgG at hm
  split at hm
  · rename_i d ρ1 h1
    split at hm
    · rename_i ρ2 h2
      cases hm
      refine ⟨F, ρ, α, d, ρ1, w, h1, fun v F1 H1 α1 w1 g1 r1 => ?_⟩
      exact ⟨F1, ρ1, α1, d, ρ', w1, r1, h2, fun σ2 α2 w2 g2 k2 => q σ2 F1 H1 α2 w2 (g1.toGS.trans g2) (Kp.trans (Same.refl F1) (Kp.of g1) k2)⟩
    · cases hm
  · cases hm
/-- a, b = x, y with plain names -/
def mPar (i j : Nat) (m : ML) : MS := fun ρ => match m ρ with
  | some ([d, e], ρ1) => some (.nx, (ρ1.set i (some (.dat d))).set j (some (.dat e)))
  | _ => none
theorem ss_par (i j : Nat) {x y : Str} {a b : Expr} {m : ML} {px py pt : Pos} {kt k2 pt2} (hc : X.calm = true) (hN : X.N.Nodup) (ha : SL X [a, b] m) (hi : X.N[i]? = some x := by rfl) (hj : X.N[j]? = some y := by rfl) (hij : i ≠ j := by decide)
    (hx : X.env.scope.names.lookup x = some .local := by rfl) (hy : X.env.scope.names.lookup y = some .local := by rfl) (hri : rts.contains i = false := by rfl) (hrj : rts.contains j = false := by rfl)
    (hw : swappedStores [.Tuple [.Name x px, .Name y py] kt pt] (.Tuple [a, b] k2 pt2) X.env = pure (some [x, y]) := by rfl)
    (hs : swapsWithSole [.Tuple [.Name x px, .Name y py] kt pt] (.Tuple [a, b] k2 pt2) pos.line X.env = pure false := by rfl) :
    SS X rts (.Assign [.Tuple [.Name x px, .Name y py] kt pt] (.Tuple [a, b] k2 pt2) pos) (mPar i j m) := PS.imp (ps_par hc hN hi hj hij hx hy ha hw hs) fun D σ H h => by
  obtain ⟨F, ρ, α, o, ρ', w, hm, q⟩ := h
  have hi' : i ∉ rts := fun z => by
    rw [List.contains_eq_mem] at hri
    exact of_decide_eq_false hri z
  have hj' : j ∉ rts := fun z => by
    rw [List.contains_eq_mem] at hrj
    exact of_decide_eq_false hrj z
  unfold mPar at hm
  split at hm
  · rename_i d e ρ1 h1
    cases hm
    refine ⟨F, ρ, α, [d, e], ρ1, w, h1, fun vs F1 H1 α1 w1 g1 r1 => ?_⟩
    obtain ⟨v, r, rfl, q1, r2⟩ := repL_cons.mp r1
    obtain ⟨u, r, rfl, q2, r3⟩ := repL_cons.mp r2
    cases repL_nil.mp r3
    obtain ⟨α2, w2, g2, k2⟩ := w1.setD q1 hi'
    obtain ⟨α3, w3, g3, k3⟩ := w2.setD q2 hj'
    exact ⟨v, u, rfl, q _ F1 H1 α3 w3 ((g1.toGS.trans g2).trans g3) (Kp.trans (Same.refl F1) (Kp.trans (Same.refl F1) (Kp.of g1) k2) k3)⟩
  · cases hm
def mPar3 (i j l : Nat) (m : ML) : MS := fun ρ => match m ρ with
  | some ([d, e, f], ρ1) => some (.nx, ((ρ1.set i (some (.dat d))).set j (some (.dat e))).set l (some (.dat f)))
  | _ => none
theorem ss_par3 (i j l : Nat) {x y z : Str} {a b c : Expr} {m : ML} {px py pz pt : Pos} {kt k2 pt2} (hc : X.calm = true) (hN : X.N.Nodup) (ha : SL X [a, b, c] m) (hi : X.N[i]? = some x := by rfl) (hj : X.N[j]? = some y := by rfl) (hl : X.N[l]? = some z := by rfl)
    (hij : i ≠ j := by decide) (hil : i ≠ l := by decide) (hjl : j ≠ l := by decide)
    (hx : X.env.scope.names.lookup x = some .local := by rfl) (hy : X.env.scope.names.lookup y = some .local := by rfl) (hz : X.env.scope.names.lookup z = some .local := by rfl) (hri : rts.contains i = false := by rfl) (hrj : rts.contains j = false := by rfl) (hrl : rts.contains l = false := by rfl)
    (hw : swappedStores [.Tuple [.Name x px, .Name y py, .Name z pz] kt pt] (.Tuple [a, b, c] k2 pt2) X.env = pure (some [x, y, z]) := by rfl)
    (hs : swapsWithSole [.Tuple [.Name x px, .Name y py, .Name z pz] kt pt] (.Tuple [a, b, c] k2 pt2) pos.line X.env = pure false := by rfl) :
    SS X rts (.Assign [.Tuple [.Name x px, .Name y py, .Name z pz] kt pt] (.Tuple [a, b, c] k2 pt2) pos) (mPar3 i j l m) := PS.imp (ps_par3 hc hN hi hj hl hij hil hjl hx hy hz ha hw hs) fun D σ H h => by
  obtain ⟨F, ρ, α, o, ρ', w, hm, q⟩ := h
  have hn : ∀ n, rts.contains n = false → n ∉ rts := fun n hr z => by
    rw [List.contains_eq_mem] at hr
    exact of_decide_eq_false hr z
  unfold mPar3 at hm
  split at hm
  · rename_i d e f ρ1 h1
    cases hm
    refine ⟨F, ρ, α, [d, e, f], ρ1, w, h1, fun vs F1 H1 α1 w1 g1 r1 => ?_⟩
    obtain ⟨v, r, rfl, q1, r2⟩ := repL_cons.mp r1
    obtain ⟨u, r, rfl, q2, r3⟩ := repL_cons.mp r2
    obtain ⟨u3, r, rfl, q3, r4⟩ := repL_cons.mp r3
    cases repL_nil.mp r4
    obtain ⟨α2, w2, g2, k2⟩ := w1.setD q1 (hn i hri)
    obtain ⟨α3, w3, g3, k3⟩ := w2.setD q2 (hn j hrj)
    obtain ⟨α4, w4, g4, k4⟩ := w3.setD q3 (hn l hrl)
    exact ⟨v, u, u3, rfl, q _ F1 H1 α4 w4 (((g1.toGS.trans g2).trans g3).trans g4) (Kp.trans (Same.refl F1) (Kp.trans (Same.refl F1) (Kp.trans (Same.refl F1) (Kp.of g1) k2) k3) k4)⟩
  · cases hm

/-! ### lists of one's own: xs[i] = e, methods -/
def mSetIx (mo mi : ME) (m : MV) : MS := fun ρ => match m ρ with
  | some (d, ρ1) => match mo ρ1 with
    | some (.loc j, ρ2) => match mi ρ2 with
      | some (.dat (.int k), ρ3) => match ρ3[j]? with
        | some (some (.lst ds)) => match ixN ds.length k with
          | some n => some (.nx, ρ3.set j (some (.lst (ds.set n d))))
          | none => none
        | _ => none
      | _ => none
    | _ => none
  | none => none
theorem ss_setix {o i : Expr} {p2 : Pos} {mo mi : ME} {m : MV} (he : SV X e m) (ho : SE X o mo) (hi : SE X i mi)
    (ha : ∀ v, assign (.Subscript o i p2) X.env v = (do
      let ov ← holding [v] (eval o X.env)
      let iv ← holding [v, ov] (eval i X.env)
      standAt p2
      holding [v, ov, iv] (setItem ov iv v)
      release [v, ov, iv] []) := by intro _; rfl) (hs : swapsWithSole [.Subscript o i p2] e pos.line X.env = pure false := by rfl) (hw : swappedStores [.Subscript o i p2] e X.env = pure none := by rfl)
    (h1 : (assignEach [.Subscript o i p2] X.env).map (·.2) = [assign (.Subscript o i p2) X.env] := by rfl) : SS X rts (.Assign [.Subscript o i p2] e pos) (mSetIx mo mi m) := PS.imp (ps_asg he (pg_sub ho hi set_list ha) hs hw h1) fun D σ H h => by
  obtain ⟨F, ρ, α, oo, ρ', w, hm, q⟩ := h
  unfold mSetIx at hm
  split at hm
  · rename_i d ρ1 e1
    split at hm
    · rename_i j ρ2 e2
      split at hm
      · rename_i k ρ3 e3
        split at hm
        · rename_i ds e4
          split at hm
          · rename_i n e5
            cases hm
            refine ⟨F, ρ, α, d, ρ1, w, e1, fun v F1 H1 α1 w1 g1 r1 => ?_⟩
            refine ⟨F1, ρ1, α1, .loc j, ρ2, w1, e2, fun ov F2 H2 α2 w2 g2 r2 => ?_⟩
            refine ⟨F2, ρ2, α2, _, ρ3, w2, e3, fun iv F3 H3 α3 w3 g3 r3 => ?_⟩
            obtain ⟨u, s1, p, vs, s2, s3, s4, s5⟩ := w3.slot j _ e4
            have hov : σ[j]? = some (some ov) := r2
            rw [hov] at s1
            cases s1
            subst s2
            obtain ⟨w4, g4⟩ := w3.write (ds' := ds.set n d) (vs' := vs.set n v) e4 hov s4 (s5.set n (Rep.mono (g2.f.trans g3.f) _ _ r1))
            refine ⟨p, vs, k, n, rfl, (rep_int (K := X.K) (H := F3)).mp r3, s4, by rw [s5.length]; exact e5, ?_⟩
            exact q σ F3 _ α3 w4 (((g1.trans g2).trans g3).trans g4).toGS (Kp.of (((g1.trans g2).trans g3).trans g4))
          · cases hm
        · cases hm
      · cases hm
    · cases hm
  · cases hm
/-- a method that changes its list -/
def MtO (X : Cx) (id : String) (g : List PyData → List PyData → Option (PyData × List PyData)) : Prop := ∃ r : V → List V → Hp → VK → Prop, MtR X id r ∧ ∀ ds as z ds', g ds as = some (z, ds') → ∀ F H l xs vs, Same F H → H l = some (.lst xs) → F l = none → RepL X.K F ds xs → RepL X.K F as vs →
  ∀ Q : VK, (∀ v xs', RepL X.K F ds' xs' → Rep X.K F z v → Q v (upd H l (.lst xs'))) → r (.ref l) vs H Q
def mMt (g : List PyData → List PyData → Option (PyData × List PyData)) (mo : ME) (ma : ML) : MV := fun ρ => match mo ρ with
  | some (.loc j, ρ1) => match ρ1[j]? with
    | some (some (.lst _)) => match ma ρ1 with
      | some (as, ρ2) => match ρ2[j]? with
        | some (some (.lst ds)) => match g ds as with
          | some (z, ds') => some (z, ρ2.set j (some (.lst ds')))
          | none => none
        | _ => none
      | none => none
    | _ => none
  | _ => none
theorem tMt_of {id : String} {g : List PyData → List PyData → Option (PyData × List PyData)} (hm : MtO X id g) : ∃ r : V → List V → Hp → VK → Prop, MtR X id r ∧ ∀ (mo : ME) (ma : ML) σ H Q, tV X.K (mMt g mo ma) σ H Q → tBM X.K "list" r (tE X.K mo) (tL X.K ma) σ H Q := by
  obtain ⟨r, hr, hk⟩ := hm
  refine ⟨r, hr, fun mo ma σ H Q h => ?_⟩
  obtain ⟨F, ρ, α, z, ρ', w, hm, q⟩ := h
  unfold mMt at hm
  split at hm
  · rename_i j ρ1 e1
    split at hm
    · rename_i ds0 e0
      split at hm
      · rename_i as ρ2 e2
        split at hm
        · rename_i ds e3
          split at hm
          · rename_i z' ds' e4
            cases hm
            refine ⟨F, ρ, α, .loc j, ρ1, w, e1, fun ov F1 H1 α1 w1 g1 r1 => ?_⟩
            have hov : σ[j]? = some (some ov) := r1
            obtain ⟨u0, s10, p0, xs0, s20, _, s40, _⟩ := w1.slot j _ e0
            rw [hov] at s10
            cases s10
            subst s20
            refine ⟨.inl ⟨rfl, xs0, SqL.of s40⟩, F1, ρ1, α1, as, ρ2, w1, e2, fun vs F2 H2 α2 w2 g2 r2 => ?_⟩
            obtain ⟨u, s1, p, xs, s2, s3, s4, s5⟩ := w2.slot j _ e3
            rw [hov] at s1
            cases s1
            cases s2
            refine hk ds as z ds' e4 F2 H2 p0 xs vs w2.sub s4 (w2.free j p0 (by rw [s3]; simp)) s5 r2 Q fun v xs' t1 t2 => ?_
            obtain ⟨w4, g4⟩ := w2.write (ds' := ds') (vs' := xs') e3 hov s4 t1
            exact q v F2 _ α2 w4 ((g1.trans g2).trans g4) t2
          · cases hm
        · cases hm
      · cases hm
    · cases hm
  · cases hm
theorem sv_mtO {o : Expr} {es : List Expr} {id : String} {name : Str} {g : List PyData → List PyData → Option (PyData × List PyData)} {mo : ME} {ma : ML} {apos : Pos} (hm : MtO X id g) (slot : Slot "list" name id) (hty : typeOf (.builtin id) = pure (.type "method_descriptor"))
    (ho : SE X o mo) (ha : SL X (e :: es) ma)
    (hbase : attributeBase o name X.env (eval o X.env) = eval o X.env := by rfl)
    (hfew : ((backTo pos (starEach (e :: es) X.env)).all (fun x => !x.1) && (backToKw pos (keywordEach [] X.env)).all (fun x => x.1.isSome)
      && decide ((e :: es).length + ([] : List Keyword).length + (if ([] : List Keyword).isEmpty then 0 else 1) < 30)) = true := by rfl)
    (hline : (apos.endLine == pos.line) = true := by rfl) (hs : starEach (e :: es) X.env = (false, eval e X.env) :: starEach es X.env := by rfl) (hplain : (backTo pos (starEach es X.env)).any (·.1) = false := by rfl) :
    SV X (.Call (.Attribute o name apos) (e :: es) [] pos) (mMt g mo ma) := by
  obtain ⟨r, hr, hk⟩ := tMt_of hm
  exact PE.imp (pe_bm PySem.F.plainAttrs_list slot hty hr ho ha hbase hfew hline hs hplain) (hk mo ma)
def gAppend : List PyData → List PyData → Option (PyData × List PyData) := fun ds as => match as with
  | [d] => if ds.length < 16777216 then some (.none, ds ++ [d]) else none
  | _ => none
theorem mo_append : MtO X "list.append" gAppend := ⟨_, mt_append, fun ds as z ds' hz F H l xs vs s hl hF hx hv Q q => by
  unfold gAppend at hz
  split at hz
  · rename_i d
    split at hz
    · rename_i hlt
      cases hz
      obtain ⟨v, r, rfl, r1, r2⟩ := repL_cons.mp hv
      cases repL_nil.mp r2
      exact ⟨l, xs, v, rfl, rfl, hl, by rw [hx.length, sizeLine_eq]; exact hlt, q _ _ (hx.append (RepL.one r1)) (rep_none.mpr rfl)⟩
    · cases hz
  · cases hz⟩
theorem sv_append {o : Expr} {mo : ME} {ma : ML} {apos : Pos} (ho : SE X o mo) (ha : SL X [e] ma)
    (hbase : attributeBase o "append" X.env (eval o X.env) = eval o X.env := by rfl)
    (hfew : ((backTo pos (starEach [e] X.env)).all (fun x => !x.1) && (backToKw pos (keywordEach [] X.env)).all (fun x => x.1.isSome)
      && decide ([e].length + ([] : List Keyword).length + (if ([] : List Keyword).isEmpty then 0 else 1) < 30)) = true := by rfl)
    (hline : (apos.endLine == pos.line) = true := by rfl) (hs : starEach [e] X.env = (false, eval e X.env) :: starEach [] X.env := by rfl) (hplain : (backTo pos (starEach [] X.env)).any (·.1) = false := by rfl) : SV X (.Call (.Attribute o "append" apos) [e] [] pos) (mMt gAppend mo ma) :=
  sv_mtO mo_append PySem.F.slot_list_append PySem.F.type_list_append ho ha hbase hfew hline hs hplain
def mDrop (m : MV) : MS := fun ρ => match m ρ with
  | some (_, ρ1) => some (.nx, ρ1)
  | none => none
theorem ss_expr {m : MV} (he : SV X e m) (hs : swapsWith e none pos.line X.env = pure false := by rfl) : SS X rts (.Expr e pos) (mDrop m) := PS.imp (ps_expr he hs) fun D σ H h => by
  obtain ⟨F, ρ, α, oo, ρ', w, hm, q⟩ := h
  unfold mDrop at hm
  split at hm
  · rename_i d ρ1 e1
    cases hm
    exact ⟨F, ρ, α, d, ρ', w, e1, fun v F1 H1 α1 w1 g1 r1 => q σ F1 H1 α1 w1 g1.toGS (Kp.of g1)⟩
  · cases hm

/-! ### return, if -/
def mRet (m : MO) : MS := fun ρ => match m ρ with
  | some (t, ρ1) => some (.ret t, ρ1)
  | none => none
theorem ss_ret {m : MO} (he : SO X e m) : SS X rts (.Return (some e) pos) (mRet m) := PS.imp (ps_ret he) fun D σ H h => by
  obtain ⟨F, ρ, α, oo, ρ', w, hm, q⟩ := h
  unfold mRet at hm
  split at hm
  · rename_i d ρ1 e1
    cases hm
    exact ⟨F, ρ, α, d, ρ', w, e1, fun v F1 H1 α1 B w1 g1 r1 hB => q v σ F1 H1 α1 B w1 g1.toGS (Kp.of g1) r1 fun p hp => ⟨(hB p hp).1, .inl (hB p hp).2.1, (hB p hp).2.2⟩⟩
  · cases hm
/-- return of a name that holds a list of one's own: it goes -/
def mRetV (rts : List Nat) (i : Nat) : MS := fun ρ => match ρ[i]? with
  | some (some t) => if rts.contains i then none else some (.ret t, ρ.set i none)
  | _ => none
theorem ss_retV (i : Nat) {x : Str} {p2 : Pos} (hN : X.N[i]? = some x := by rfl) (hv : Vis X.env.scope x := by first | exact Or.inl rfl | exact Or.inr (Or.inl rfl) | exact Or.inr (Or.inr rfl)) (hd : (x == ("__debug__" : Str)) = false := by decide)
    (hcd : (x == ("__classdict__" : Str)) = false := by decide) : SS X rts (.Return (some (.Name x p2)) pos) (mRetV rts i) := PS.imp (ps_ret (pe_var hN hv hd hcd)) fun D σ H h => by
  obtain ⟨F, ρ, α, oo, ρ', w, hm, q⟩ := h
  unfold mRetV at hm
  split at hm
  · rename_i t e1
    split at hm
    · cases hm
    · rename_i hr
      cases hm
      have hi : i ∉ rts := fun z => hr (by rw [List.contains_eq_mem]; exact decide_eq_true z)
      obtain ⟨v, h1, h2⟩ := w.slot i _ e1
      refine ⟨v, h1, ?_⟩
      refine q v σ F H (fun j => if j = i then [] else α j) (α i) ⟨w.sub, by rw [List.length_set]; exact w.len, fun j t' ht => ?_, fun j p hp => ?_, fun j k p hj hk => ?_, fun j p hp => ?_⟩ ⟨Same.refl F, fun q o e n => (by rw [e] at n; cases n), fun q o e n => e, fun q o e => ⟨o, e⟩, fun j q hq => ?_⟩
        ⟨rfl, fun j hj => ⟨rfl, fun p hp => .inl ?_⟩⟩ h2 fun p hp => ⟨w.free i p hp, .inr ⟨i, hp⟩, fun j hj => ?_⟩
      · by_cases z : j = i
        · subst z
          obtain ⟨hl, _⟩ := List.getElem?_eq_some_iff.mp e1
          rw [List.getElem?_set_self hl] at ht
          cases ht
        · rw [List.getElem?_set_ne (Ne.symm z)] at ht
          obtain ⟨u, g1, g2⟩ := w.slot j _ ht
          refine ⟨u, g1, ?_⟩
          simp only [if_neg z]
          exact g2
      · by_cases z : j = i
        · simp only [if_pos z] at hp; cases hp
        · simp only [if_neg z] at hp; exact w.free j p hp
      · by_cases z : j = i
        · simp only [if_pos z] at hj; cases hj
        · simp only [if_neg z] at hj
          by_cases z2 : k = i
          · simp only [if_pos z2] at hk; cases hk
          · simp only [if_neg z2] at hk
            exact w.disj j k p hj hk
      · by_cases z : j = i
        · simp only [if_pos z] at hp; cases hp
        · simp only [if_neg z] at hp; exact w.live j p hp
      · by_cases z : j = i
        · simp only [if_pos z] at hq; cases hq
        · simp only [if_neg z] at hq; exact .inl ⟨j, hq⟩
      · have z : j ≠ i := fun e => hi (e ▸ hj)
        simp only [if_neg z]
        exact hp
      · by_cases z : j = i
        · simp only [if_pos z] at hj; cases hj
        · simp only [if_neg z] at hj
          exact z (w.disj j i p hj hp)
  · cases hm
def mRetN : MS := fun ρ => some (.ret (.dat .none), ρ)
theorem ss_retN : SS X rts (.Return none pos) mRetN := PS.imp ps_retN fun D σ H h => by
  obtain ⟨F, ρ, α, oo, ρ', w, hm, q⟩ := h
  cases hm
  exact q .non σ F H α [] w GS.refl Kp.refl ⟨rep_none.mpr rfl, rfl⟩ fun _ hp => by cases hp
theorem ss_if {c : Expr} {a b : List Stmt} {mt : MT} {ma mb : MS} (hc : ST X c mt) (ha : SB X rts a ma) (hb : SB X rts b mb) : SS X rts (.If c a b pos) (mIf mt ma mb) := PS.imp (ps_if hc ha hb) fun D σ H h => by
  obtain ⟨F, ρ, α, z, ρ', w, hm, q⟩ := h
  unfold mIf at hm
  split at hm
  · rename_i ρ1 h1
    refine ⟨F, ρ, α, true, ρ1, w, h1, fun F1 H1 α1 w1 g1 => ?_⟩
    refine iteT ?_
    exact ⟨F1, ρ1, α1, z, ρ', w1, hm, q.from g1.toGS (Kp.of g1)⟩
  · rename_i ρ1 h1
    refine ⟨F, ρ, α, false, ρ1, w, h1, fun F1 H1 α1 w1 g1 => ?_⟩
    refine iteF ?_
    exact ⟨F1, ρ1, α1, z, ρ', w1, hm, q.from g1.toGS (Kp.of g1)⟩
  · cases hm

/-! ### while -/
def mWhN (mt : MT) (mb : MS) : Nat → MS
  | 0, _ => none
  | n + 1, ρ => match mt ρ with
    | some (true, ρ1) => match mb ρ1 with
      | some (.nx, ρ2) => mWhN mt mb n ρ2
      | some (.ct, ρ2) => mWhN mt mb n ρ2
      | some (.bk, ρ2) => some (.nx, ρ2)
      | some (.ret t, ρ2) => some (.ret t, ρ2)
      | none => none
    | some (false, ρ1) => some (.nx, ρ1)
    | none => none
theorem mWhN_succ {mt : MT} {mb : MS} {n : Nat} {ρ : DEnv} : mWhN mt mb (n + 1) ρ = match mt ρ with
    | some (true, ρ1) => match mb ρ1 with
      | some (.nx, ρ2) => mWhN mt mb n ρ2
      | some (.ct, ρ2) => mWhN mt mb n ρ2
      | some (.bk, ρ2) => some (.nx, ρ2)
      | some (.ret t, ρ2) => some (.ret t, ρ2)
      | none => none
    | some (false, ρ1) => some (.nx, ρ1)
    | none => none := rfl
theorem mWhN_more {mt : MT} {mb : MS} : ∀ {n : Nat} {ρ : DEnv} {x : Out × DEnv}, mWhN mt mb n ρ = some x → ∀ k, mWhN mt mb (n + k) ρ = some x
  | 0, _, _, h, _ => by cases h
  | n + 1, ρ, x, h, k => by
    rw [show n + 1 + k = (n + k) + 1 by omega]
    rw [mWhN_succ] at h ⊢
    cases h1 : mt ρ with
    | none => simp only [h1] at h; cases h
    | some y =>
      obtain ⟨b, ρ1⟩ := y
      cases b with
      | false => simp only [h1] at h ⊢; exact h
      | true =>
        simp only [h1] at h ⊢
        cases h2 : mb ρ1 with
        | none => simp only [h2] at h; cases h
        | some y2 =>
          obtain ⟨o, ρ2⟩ := y2
          cases o with
          | nx => simp only [h2] at h ⊢; exact mWhN_more h k
          | ct => simp only [h2] at h ⊢; exact mWhN_more h k
          | bk => simp only [h2] at h ⊢; exact h
          | ret t => simp only [h2] at h ⊢; exact h
open Classical in
/-- the loop, however many turns it takes -/
noncomputable def mWh (mt : MT) (mb : MS) : MS := fun ρ => if h : ∃ n x, mWhN mt mb n ρ = some x then some (Classical.choose (Classical.choose_spec h)) else none
theorem mWh_of {mt : MT} {mb : MS} {n : Nat} {ρ : DEnv} {x : Out × DEnv} (h : mWhN mt mb n ρ = some x) : mWh mt mb ρ = some x := by
  have hx : ∃ n x, mWhN mt mb n ρ = some x := ⟨n, x, h⟩
  unfold mWh
  rw [dif_pos hx]
  have h2 := Classical.choose_spec (Classical.choose_spec hx)
  have h3 := mWhN_more h2 n
  have h4 := mWhN_more h (Classical.choose hx)
  rw [Nat.add_comm] at h3
  rw [h4] at h3
  exact h3.symm
theorem of_mWh {mt : MT} {mb : MS} {ρ : DEnv} {x : Out × DEnv} (h : mWh mt mb ρ = some x) : ∃ n, mWhN mt mb n ρ = some x := by
  unfold mWh at h
  split at h
  · rename_i hx
    cases h
    exact ⟨_, Classical.choose_spec (Classical.choose_spec hx)⟩
  · cases h
theorem ss_while {c : Expr} {body : List Stmt} {mt : MT} {mb : MS} (hp : PassesOwn (model X.prog X.w) X.A X.env X.xe) (hc : ST X c mt) (hb : SB X rts body mb) : SS X rts (.While c body [] pos) (mWh mt mb) := PS.imp (ps_while hp hc hb) fun D σ0 H0 h => by
  obtain ⟨F0, ρ0, α0, o, ρ', w0, hm, q⟩ := h
  obtain ⟨n0, hn⟩ := of_mWh hm
  refine ⟨fun n σ H => ∃ F ρ α, Wd X.K F H ρ σ α ∧ GS F0 H0 α0 F H α ∧ Kp rts F σ0 α0 σ α ∧ mWhN mt mb n ρ = some (o, ρ'), ⟨n0, F0, ρ0, α0, w0, GS.refl, Kp.refl, hn⟩, ?_⟩
  rintro n σ H ⟨F, ρ, α, w, g, k, hn⟩
  cases n with
  | zero => cases hn
  | succ n =>
    unfold mWhN at hn
    split at hn
    · rename_i ρ1 h1
      refine ⟨F, ρ, α, true, ρ1, w, h1, fun F1 H1 α1 w1 g1 => ?_⟩
      refine iteT ?_
      have gg := g.trans g1.toGS
      have kk := Kp.trans g1.f k (Kp.of g1)
      refine ⟨_, fun σ' H' z => z, ?_⟩
      split at hn
      · rename_i ρ2 h2
        exact ⟨F1, ρ1, α1, .nx, ρ2, w1, h2, fun σ3 F3 H3 α3 w3 g3 k3 => ⟨n, Nat.lt_succ_self n, F3, ρ2, α3, w3, gg.trans g3, kk.trans g3.f k3, hn⟩⟩
      · rename_i ρ2 h2
        exact ⟨F1, ρ1, α1, .ct, ρ2, w1, h2, fun σ3 F3 H3 α3 w3 g3 k3 => ⟨n, Nat.lt_succ_self n, F3, ρ2, α3, w3, gg.trans g3, kk.trans g3.f k3, hn⟩⟩
      · rename_i ρ2 h2
        cases hn
        refine ⟨F1, ρ1, α1, .bk, ρ', w1, h2, ?_⟩
        exact q.from gg kk
      · rename_i t ρ2 h2
        cases hn
        refine ⟨F1, ρ1, α1, .ret t, ρ', w1, h2, ?_⟩
        exact q.from gg kk
      · cases hn
    · rename_i ρ1 h1
      cases hn
      refine ⟨F, ρ, α, false, ρ', w, h1, fun F1 H1 α1 w1 g1 => ?_⟩
      refine iteF ?_
      exact q σ F1 H1 α1 w1 (g.trans g1.toGS) (Kp.trans g1.f k (Kp.of g1))
    · cases hn
end
end Sem
-- SemD
/-! SemD: what a for walks, for, comprehensions; what a def promises, its call. -/
namespace Sem
open PySem L2

/-! ### what is walked -/
def JOk (K : PySem.W.Frag) (J : It) (F : Hp) (ds : List PyData) : Prop := ∀ F' H', Same F F' → Same F' H' → ∀ i,
  (∀ d, ds[i]? = some d → J.go i H' ∧ ∀ x H2, J.yld i H' x H2 → ∃ F2, New F' H' F2 H2 ∧ Rep K F2 d x) ∧ (ds.length ≤ i → J.stop i H')
def tI (K : PySem.W.Frag) (mi : ML) : TI := fun σ H W => ∃ F ρ α ds ρ', Wd K F H ρ σ α ∧ mi ρ = some (ds, ρ') ∧ ∀ J F' H' α', Wd K F' H' ρ' σ α' → Gr F H α F' H' α' → JOk K J F' ds → W J H'
abbrev SI (X : Cx) (tg e : Expr) (mi : ML) : Prop := PI X tg e (tI X.K mi)
theorem PI.imp {X : Cx} {tg e : Expr} {t t' : TI} (h : PI X tg e t) (i : ∀ σ H W, t' σ H W → t σ H W) : PI X tg e t' := ⟨fun pins s σ H W I q => h.run pins s σ H W I (i σ H W q)⟩
theorem PI.or {X : Cx} {tg e : Expr} {t t' : TI} (h : PI X tg e t) (h' : PI X tg e t') : PI X tg e (fun σ H W => t σ H W ∨ t' σ H W) := ⟨fun pins s σ H W I q => by
  rcases q with q | q
  · exact h.run pins s σ H W I q
  · exact h'.run pins s σ H W I q⟩
def seqOf : PyData → Option (List PyData)
  | .list ds => some ds
  | .tuple ds => some ds
  | _ => none
def mSeqI (m : MV) : ML := fun ρ => match m ρ with
  | some (d, ρ1) => match seqOf d with
    | some ds => some (ds, ρ1)
    | none => none
  | none => none
section
variable {X : Cx} {tg e a b : Expr} {pos p : Pos}
theorem jok_list {K : PySem.W.Frag} {F : Hp} {a : Addr} {vs : List V} {ds : List PyData} (h : F a = some (.lst vs)) (r : RepL K F ds vs) : JOk K (Itl K a) F ds := fun F' H' s1 s2 i => by
  have hq : SqL K H' a vs := SqL.of (s2 _ _ (s1 _ _ h))
  refine ⟨fun d hd => ?_, fun hl => ⟨vs, hq, by rw [r.length]; exact hl⟩⟩
  obtain ⟨v, h1, h2⟩ := r.get hd
  refine ⟨⟨vs, v, hq, h1⟩, fun x H2 y => ?_⟩
  obtain ⟨rfl, y⟩ := y
  have e := y vs hq
  rw [h1] at e
  cases e
  exact ⟨F', New.refl s2, Rep.mono s1 _ _ h2⟩
theorem jok_tup {K : PySem.W.Frag} {F : Hp} {a : Addr} {vs : List V} {ds : List PyData} (h : SqT K F a vs) (r : RepL K F ds vs) : JOk K (Itt K a) F ds := fun F' H' s1 s2 i => by
  have hq : SqT K H' a vs := Same.tup s2 (Same.tup s1 h)
  refine ⟨fun d hd => ?_, fun hl => ⟨vs, hq, by rw [r.length]; exact hl⟩⟩
  obtain ⟨v, h1, h2⟩ := r.get hd
  refine ⟨⟨vs, v, hq, h1⟩, fun x H2 y => ?_⟩
  obtain ⟨rfl, y⟩ := y
  have e := y vs hq
  rw [h1] at e
  cases e
  exact ⟨F', New.refl s2, Rep.mono s1 _ _ h2⟩
theorem si_seq {m : MV} (h : SV X e m) : SI X tg e (mSeqI m) := PI.imp (PI.or (pi_list h) (pi_tup h)) fun σ H W q => by
  obtain ⟨F, ρ, α, ds, ρ', w, hm, q⟩ := q
  unfold mSeqI at hm
  split at hm
  · rename_i d ρ1 h1
    split at hm
    · rename_i ds' h2
      cases hm
      cases d with
      | list es =>
        cases h2
        refine .inl ⟨F, ρ, α, _, ρ', w, h1, fun v F1 H1 α1 w1 g1 r1 => ?_⟩
        obtain ⟨a, vs, e1, k1, k2⟩ := rep_list.mp r1
        exact ⟨a, e1, ⟨vs, SqL.of (w1.sub _ _ k1)⟩, q _ F1 H1 α1 w1 g1 (jok_list k1 k2)⟩
      | tuple es =>
        cases h2
        refine .inr ⟨F, ρ, α, _, ρ', w, h1, fun v F1 H1 α1 w1 g1 r1 => ?_⟩
        obtain ⟨a, vs, e1, k1, k2⟩ := rep_tuple.mp r1
        exact ⟨a, e1, ⟨vs, Same.tup w1.sub k1⟩, q _ F1 H1 α1 w1 g1 (jok_tup k1 k2)⟩
      | _ => cases h2
    · cases hm
  · cases hm
def rngD (lo : Int) (n : Nat) : List PyData := (List.range n).map fun (i : Nat) => PyData.int (lo + (i : Int))
theorem jok_range {K : PySem.W.Frag} {F : Hp} {lo : Int} {n : Nat} : JOk K (Itr lo n) F (rngD lo n) := fun F' H' s1 s2 i => by
  have hl : (rngD lo n).length = n := by unfold rngD; rw [List.length_map, List.length_range]
  refine ⟨fun d hd => ?_, fun h => by rw [hl] at h; exact h⟩
  have hi : i < n := by
    have := (List.getElem?_eq_some_iff.mp hd).1
    rw [hl] at this
    exact this
  refine ⟨hi, fun x H2 y => ?_⟩
  obtain ⟨rfl, rfl⟩ := y
  refine ⟨F', New.refl s2, ?_⟩
  unfold rngD at hd
  rw [List.getElem?_map, List.getElem?_range hi] at hd
  cases hd
  exact rep_int.mpr rfl
def inRange (j : Int) : Bool := decide (-(2 ^ 62) ≤ j) && decide (j < 2 ^ 62)
theorem inRange_of {j : Int} (h : inRange j = true) : -(2 ^ 62) ≤ j ∧ j < 2 ^ 62 := by
  unfold inRange at h
  rw [Bool.and_eq_true] at h
  exact ⟨of_decide_eq_true h.1, of_decide_eq_true h.2⟩
def mRng1 (ma : ML) : ML := fun ρ => match ma ρ with
  | some ([.int j], ρ1) => if inRange j then some (rngD 0 j.toNat, ρ1) else none
  | _ => none
theorem si_range1 {ma : ML} (hm : X.mg "range" = none) (ha : SL X [a] ma) (hg : Gl X "range" := by rfl) (hs : starEach [a] X.env = [(false, eval a X.env)] := by rfl) : SI X tg (.Call (.Name "range" p) [a] [] pos) (mRng1 ma) := PI.imp (pi_range1 hg hm ha hs) fun σ H W q => by
  obtain ⟨F, ρ, α, ds, ρ', w, hm, q⟩ := q
  unfold mRng1 at hm
  split at hm
  · rename_i j ρ1 h1
    split at hm
    · rename_i hj
      cases hm
      refine ⟨F, ρ, α, _, ρ', w, h1, fun vs F1 H1 α1 w1 g1 r1 => ?_⟩
      obtain ⟨v, r, rfl, k1, k2⟩ := repL_cons.mp r1
      cases repL_nil.mp k2
      exact ⟨j, by rw [rep_int.mp k1], (inRange_of hj).1, (inRange_of hj).2, q _ F1 H1 α1 w1 g1 jok_range⟩
    · cases hm
  · cases hm
def mRng2 (ma : ML) : ML := fun ρ => match ma ρ with
  | some ([.int i, .int j], ρ1) => if inRange i && inRange j then some (rngD i (j - i).toNat, ρ1) else none
  | _ => none
theorem si_range2 {ma : ML} (hm : X.mg "range" = none) (ha : SL X [a, b] ma) (hg : Gl X "range" := by rfl) (hs : starEach [a, b] X.env = [(false, eval a X.env), (false, eval b X.env)] := by rfl) (hs2 : starEach [b] X.env = [(false, eval b X.env)] := by rfl) :
    SI X tg (.Call (.Name "range" p) [a, b] [] pos) (mRng2 ma) := PI.imp (pi_range2 hg hm ha hs hs2) fun σ H W q => by
  obtain ⟨F, ρ, α, ds, ρ', w, hm, q⟩ := q
  unfold mRng2 at hm
  split at hm
  · rename_i i j ρ1 h1
    split at hm
    · rename_i hj
      cases hm
      rw [Bool.and_eq_true] at hj
      refine ⟨F, ρ, α, _, ρ', w, h1, fun vs F1 H1 α1 w1 g1 r1 => ?_⟩
      obtain ⟨v, r, rfl, k1, k2⟩ := repL_cons.mp r1
      obtain ⟨v2, r, rfl, k3, k4⟩ := repL_cons.mp k2
      cases repL_nil.mp k4
      exact ⟨i, j, by rw [rep_int.mp k1, rep_int.mp k3], ⟨(inRange_of hj.1).1, (inRange_of hj.1).2, (inRange_of hj.2).1, (inRange_of hj.2).2⟩, q _ F1 H1 α1 w1 g1 jok_range⟩
    · cases hm
  · cases hm

/-! ### for -/
def mForL (g : PyData → DEnv → Option DEnv) (mb : MS) : List PyData → MS
  | [], ρ => some (.nx, ρ)
  | d :: ds, ρ => match g d ρ with
    | some ρ1 => match mb ρ1 with
      | some (.nx, ρ2) => mForL g mb ds ρ2
      | some (.ct, ρ2) => mForL g mb ds ρ2
      | some (.bk, ρ2) => some (.nx, ρ2)
      | some (.ret t, ρ2) => some (.ret t, ρ2)
      | none => none
    | none => none
theorem mForL_cons {g : PyData → DEnv → Option DEnv} {mb : MS} {d : PyData} {ds : List PyData} {ρ : DEnv} : mForL g mb (d :: ds) ρ = match g d ρ with
    | some ρ1 => match mb ρ1 with
      | some (.nx, ρ2) => mForL g mb ds ρ2
      | some (.ct, ρ2) => mForL g mb ds ρ2
      | some (.bk, ρ2) => some (.nx, ρ2)
      | some (.ret t, ρ2) => some (.ret t, ρ2)
      | none => none
    | none => none := rfl
def mFor (mi : ML) (g : PyData → DEnv → Option DEnv) (mb : MS) : MS := fun ρ => match mi ρ with
  | some (ds, ρ1) => mForL g mb ds ρ1
  | none => none
theorem ss_for {rts : List Nat} {body : List Stmt} {mi : ML} {g : PyData → DEnv → Option DEnv} {mb : MS} (hp : PassesOwn (model X.prog X.w) X.A X.env X.xe) (hc : X.calm = true) (hi : SI X tg e mi) (hg : SG X rts tg g) (hb : SB X rts body mb)
    (hs : ∀ x, foldedSetIterable e X.env x = pure x := by intro _; rfl) : SS X rts (.For tg e body [] pos) (mFor mi g mb) := PS.imp (ps_for hp hc hi hg hb hs) fun D σ0 H0 h => by
  obtain ⟨F0, ρ0, α0, o, ρ', w0, hm, q⟩ := h
  unfold mFor at hm
  split at hm
  case h_2 => cases hm
  rename_i ds ρ1 h1
  refine ⟨F0, ρ0, α0, ds, ρ1, w0, h1, fun J F1 H1 α1 w1 g1 j1 => ?_⟩
  refine ⟨fun i m σ H => m = ds.length - i ∧ i ≤ ds.length ∧ ∃ F ρ α, Wd X.K F H ρ σ α ∧ Same F1 F ∧ GS F0 H0 α0 F H α ∧ Kp rts F σ0 α0 σ α ∧ mForL g mb (ds.drop i) ρ = some (o, ρ'),
    ⟨ds.length, by omega, Nat.zero_le _, F1, ρ1, α1, w1, Same.refl F1, g1.toGS, Kp.of g1, by rw [List.drop_zero]; exact hm⟩, ?_⟩
  rintro i m σ H ⟨rfl, hi, F, ρ, α, w, s1, gs, k, hf⟩
  have jj := j1 F H s1 w.sub i
  by_cases hlt : i < ds.length
  · have hd : ds[i]? = some ds[i] := List.getElem?_eq_getElem hlt
    obtain ⟨go, yl⟩ := jj.1 _ hd
    rw [List.drop_eq_getElem_cons hlt, mForL_cons] at hf
    refine .inr ⟨go, fun σ' H' => ∃ F ρ α, Wd X.K F H' ρ σ' α ∧ Same F1 F ∧ GS F0 H0 α0 F H' α ∧ Kp rts F σ0 α0 σ' α ∧ mForL g mb (ds.drop (i + 1)) ρ = some (o, ρ'), fun σ' H' z => ⟨ds.length - (i + 1), by omega, rfl, hlt, z⟩, fun x H2 y => ?_⟩
    obtain ⟨F2, n2, r2⟩ := yl x H2 y
    have w2 := w.new n2
    cases h3 : g ds[i] ρ with
    | none => simp only [h3] at hf; cases hf
    | some ρ3 =>
      simp only [h3] at hf
      refine ⟨F2, ρ, α, ds[i], ρ3, w2, r2, h3, fun σ3 α3 w3 g3 k3 => ?_⟩
      have gs3 := (gs.trans (n2.gr (α := α)).toGS).trans g3
      have kk3 : Kp rts F2 σ0 α0 σ3 α3 := Kp.trans (Same.refl F2) (Kp.trans n2.f k (Kp.of n2.gr)) k3
      cases h4 : mb ρ3 with
      | none => simp only [h4] at hf; cases hf
      | some y4 =>
        obtain ⟨o4, ρ4⟩ := y4
        refine ⟨F2, ρ3, α3, o4, ρ4, w3, h4, ?_⟩
        cases o4 with
        | nx =>
          simp only [h4] at hf
          exact fun σ5 F5 H5 α5 w5 g5 k5 => ⟨F5, ρ4, α5, w5, (s1.trans n2.f).trans g5.f, gs3.trans g5, Kp.trans g5.f kk3 k5, hf⟩
        | ct =>
          simp only [h4] at hf
          exact fun σ5 F5 H5 α5 w5 g5 k5 => ⟨F5, ρ4, α5, w5, (s1.trans n2.f).trans g5.f, gs3.trans g5, Kp.trans g5.f kk3 k5, hf⟩
        | bk =>
          simp only [h4] at hf
          cases hf
          exact q.from gs3 kk3
        | ret t =>
          simp only [h4] at hf
          cases hf
          exact q.from gs3 kk3
  · have e' : i = ds.length := by omega
    subst e'
    rw [List.drop_length] at hf
    cases hf
    exact .inl ⟨jj.2 (Nat.le_refl _), q σ F H α w gs k⟩
end

/-! ### comprehensions -/
def wipeD (ρ : DEnv) : List Nat → DEnv
  | [] => ρ
  | v :: vs => (wipeD ρ vs).set v none
theorem wipeD_length (ρ : DEnv) : ∀ vs : List Nat, (wipeD ρ vs).length = ρ.length
  | [] => rfl
  | v :: vs => by unfold wipeD; rw [List.length_set, wipeD_length ρ vs]
theorem wipeD_some {ρ : DEnv} {i : Nat} {x : T} : ∀ {vs : List Nat}, (wipeD ρ vs)[i]? = some (some x) → ρ[i]? = some (some x) ∧ i ∉ vs
  | [], h => ⟨h, by simp⟩
  | v :: vs, h => by
    unfold wipeD at h
    by_cases hi : v = i
    · subst hi
      by_cases hv : v < (wipeD ρ vs).length
      · rw [List.getElem?_set_self hv] at h; cases h
      · rw [List.getElem?_eq_none (by simpa using hv)] at h; cases h
    · rw [List.getElem?_set_ne hi] at h
      obtain ⟨h1, h2⟩ := wipeD_some h
      exact ⟨h1, by simp only [List.mem_cons, not_or]; exact ⟨fun e => hi e.symm, h2⟩⟩
def outs (n : Nat) (vs : List Nat) : List Nat := (List.range n).filter fun i => !vs.contains i
theorem mem_outs {n i : Nat} {vs : List Nat} (h : i < n) (h2 : i ∉ vs) : i ∈ outs n vs := by
  unfold outs
  rw [List.mem_filter]
  refine ⟨List.mem_range.mpr h, ?_⟩
  rw [List.contains_eq_mem, decide_eq_false h2]
  rfl
def mLcL (vs : List Nat) (g : PyData → DEnv → Option DEnv) (mt : MT) (me : MV) : List PyData → DEnv → Option (List PyData × DEnv)
  | [], ρ => some ([], ρ)
  | d :: ds, ρ => match g d ρ with
    | some ρ1 => match mt ρ1 with
      | some (true, ρ2) => match me ρ2 with
        | some (z, ρ3) => match mLcL vs g mt me ds (wipeD ρ3 vs) with
          | some (zs, ρ4) => some (z :: zs, ρ4)
          | none => none
        | none => none
      | some (false, ρ2) => mLcL vs g mt me ds (wipeD ρ2 vs)
      | none => none
    | none => none
theorem mLcL_cons {vs : List Nat} {g : PyData → DEnv → Option DEnv} {mt : MT} {me : MV} {d : PyData} {ds : List PyData} {ρ : DEnv} : mLcL vs g mt me (d :: ds) ρ = match g d ρ with
    | some ρ1 => match mt ρ1 with
      | some (true, ρ2) => match me ρ2 with
        | some (z, ρ3) => match mLcL vs g mt me ds (wipeD ρ3 vs) with
          | some (zs, ρ4) => some (z :: zs, ρ4)
          | none => none
        | none => none
      | some (false, ρ2) => mLcL vs g mt me ds (wipeD ρ2 vs)
      | none => none
    | none => none := rfl
def mLc (vs : List Nat) (mi : ML) (g : PyData → DEnv → Option DEnv) (mt : MT) (me : MV) : MO := fun ρ => match mi ρ with
  | some (ds, ρ1) => if small ds.length then match mLcL vs g mt me ds (wipeD ρ1 vs) with
    | some (zs, ρ2) => some (.lst zs, ρ2)
    | none => none
    else none
  | none => none
def mYes : MT := fun ρ => some (true, ρ)
section
variable {K : PySem.W.Frag} {F H F0 H0 : Hp} {ρ : DEnv} {σ σ2 : L2.St} {α α0 : Nat → List Addr} {vs : List Nat}
theorem Wd.wiped (w : Wd K F H ρ σ2 α) (e : wipe σ2 vs = wipe σ vs) : Wd K F H (wipeD ρ vs) (wipe σ vs) α where
  sub := w.sub
  len := by rw [← e, wipe_length, wipeD_length]; exact w.len
  slot := fun i t h => by
    obtain ⟨h1, h2⟩ := wipeD_some h
    obtain ⟨v, h3, h4⟩ := w.slot i t h1
    refine ⟨v, ?_, h4⟩
    rw [← e, wipe_out h2]
    exact h3
  free := w.free
  disj := w.disj
  live := w.live
theorem Wd.unwiped (w : Wd K F H ρ (wipe σ vs) α) : Wd K F H ρ σ α where
  sub := w.sub
  len := by rw [← w.len, wipe_length]
  slot := fun i t h => by
    obtain ⟨v, h3, h4⟩ := w.slot i t h
    exact ⟨v, (wipe_some h3).1, h4⟩
  free := w.free
  disj := w.disj
  live := w.live
theorem wipe_eq {n : Nat} (l1 : σ2.length = n) (l2 : (wipe σ vs).length = n) (k : ∀ i, i < n → i ∉ vs → σ2[i]? = (wipe σ vs)[i]?) : wipe σ2 vs = wipe σ vs := by
  refine List.ext_getElem? fun i => ?_
  by_cases hi : i ∈ vs
  · have no : ∀ τ : L2.St, ∀ v, (wipe τ vs)[i]? ≠ some (some v) := fun τ v h => (wipe_some h).2 hi
    have len2 : (wipe σ2 vs).length = (wipe σ vs).length := by rw [wipe_length, l1, l2]
    by_cases hl : i < (wipe σ vs).length
    · have e1 : (wipe σ vs)[i]? = some (wipe σ vs)[i] := List.getElem?_eq_getElem hl
      have e2 : (wipe σ2 vs)[i]? = some ((wipe σ2 vs)[i]'(by omega)) := List.getElem?_eq_getElem (by omega)
      rw [e1, e2]
      congr 1
      cases h1 : (wipe σ vs)[i] with
      | some v => exact absurd (by rw [e1, h1]) (no σ v)
      | none =>
        cases h2 : (wipe σ2 vs)[i]'(by omega) with
        | some v => exact absurd (by rw [e2, h2]) (no σ2 v)
        | none => rfl
    · rw [List.getElem?_eq_none (by omega), List.getElem?_eq_none (by omega)]
  · rw [wipe_out hi]
    by_cases hl : i < n
    · exact k i hl hi
    · rw [List.getElem?_eq_none (by omega), List.getElem?_eq_none (by omega)]
theorem Wd.side {D : Addr} {u o : HO} (w : Wd K F H ρ σ α) (hF : F D = none) (ha : ∀ i, D ∉ α i) (hD : H D = some u) : Wd K F (upd H D o) ρ σ α where
  sub := fun a x e => by
    rw [upd_ne (ne_of_none e hF)]
    exact w.sub _ _ e
  len := w.len
  slot := fun i t h => by
    obtain ⟨v, h3, h4⟩ := w.slot i t h
    refine ⟨v, h3, h4.frame (Same.refl F) fun p hp o' e => ?_⟩
    have ne : p ≠ D := fun z => ha i (by rw [← z]; exact hp)
    rw [upd_ne ne]
    exact e
  free := w.free
  disj := w.disj
  live := fun i p hp => by
    obtain ⟨x, e⟩ := w.live i p hp
    by_cases z : p = D
    · exact absurd (by rw [← z]; exact hp) (ha i)
    · exact ⟨x, by rw [upd_ne z]; exact e⟩
theorem Gr.side {D : Addr} {o : HO} (g : Gr F0 H0 α0 F H α) (h : H0 D = none) : Gr F0 H0 α0 F (upd H D o) α :=
  ⟨⟨g.f, g.n, fun p x e n => by
    rw [upd_ne (ne_of_none e h)]
    exact g.h p x e n, fun p x e => by
    obtain ⟨x', e'⟩ := g.k p x e
    exact ⟨x', by rw [upd_ne (ne_of_none e h)]; exact e'⟩, g.a⟩, g.o⟩
end
section
variable {X : Cx} {elt tg iter : Expr} {ifs : List Expr} {scope : Scope} {own : List (Str × Nat)} {pos : Pos}
abbrev STs (X : Cx) (ifs : List Expr) (m : MT) : Prop := PTs X ifs (tT X.K m)
theorem sts_nil : STs X [] mYes := ⟨fun pins s σ H Q I hw => pts_nil.run pins s σ H Q I (by
  obtain ⟨F, ρ, α, b, ρ', w, hm, q⟩ := hw
  cases hm
  exact q F H α w Gr.refl)⟩
theorem sts_one {c : Expr} {m : MT} (h : ST X c m) : STs X [c] m := pts_one h
theorem tLc_of {mi : ML} {g : PyData → DEnv → Option DEnv} {mt : MT} {me : MV} {vs : List Nat} {n : Nat} : ∀ σ H Q, tO X.K (mLc vs mi g mt me) σ H Q → σ.length = n → tLc (tI X.K mi) (tG X.K (outs n vs) g) (tT X.K mt) (tV X.K me) vs σ H Q := fun σ H0 Q h hlen => by
  obtain ⟨F0, ρ0, α0, t, ρ', w0, hm, q⟩ := h
  unfold mLc at hm
  split at hm
  case h_2 => cases hm
  rename_i ds ρ1 h1
  split at hm
  case isFalse => cases hm
  rename_i hsm
  split at hm
  case h_2 => cases hm
  rename_i zs ρ2 h2
  cases hm
  have hsmall : ds.length ≤ 16777216 := of_decide_eq_true hsm
  refine ⟨F0, ρ0, α0, ds, ρ1, w0, h1, fun J F1 H1 α1 w1 g1 j1 D hD => ?_⟩
  obtain ⟨wD, gD, fD, nD⟩ := w1.laidH (o := .lst []) hD
  have hD0 : H0 D = none := none_of_some fun u e => by
    obtain ⟨u', e'⟩ := g1.k _ _ e
    rw [hD] at e'
    cases e'
  -- the block's own addresses: those of the slots that it leaves
  have wV : Wd X.K F1 (upd H1 D (.lst [])) (wipeD ρ1 vs) (wipe σ vs) (fun i => if i ∈ outs n vs then α1 i else []) := by
    have wd := wD.wiped (vs := vs) (σ := σ) rfl
    refine ⟨wd.sub, wd.len, fun i t ht => ?_, fun i p hp => ?_, fun i k p hi hk => ?_, fun i p hp => ?_⟩
    · obtain ⟨v, e1, e2⟩ := wd.slot i t ht
      have hi : i ∈ outs n vs := by
        refine mem_outs ?_ (wipeD_some ht).2
        have := (List.getElem?_eq_some_iff.mp e1).1
        rw [wipe_length, hlen] at this
        exact this
      refine ⟨v, e1, ?_⟩
      simp only [if_pos hi]
      exact e2
    · by_cases z : i ∈ outs n vs
      · simp only [if_pos z] at hp; exact wd.free i p hp
      · simp only [if_neg z] at hp; cases hp
    · by_cases z : i ∈ outs n vs
      · simp only [if_pos z] at hi
        by_cases z2 : k ∈ outs n vs
        · simp only [if_pos z2] at hk; exact wd.disj i k p hi hk
        · simp only [if_neg z2] at hk; cases hk
      · simp only [if_neg z] at hi; cases hi
    · by_cases z : i ∈ outs n vs
      · simp only [if_pos z] at hp; exact wd.live i p hp
      · simp only [if_neg z] at hp; cases hp
  have gV : GS F1 H1 (fun i => if i ∈ outs n vs then α1 i else []) F1 (upd H1 D (.lst [])) (fun i => if i ∈ outs n vs then α1 i else []) :=
    ⟨Same.refl F1, fun p o e z => (by rw [e] at z; cases z), fun p o e _ => (by rw [upd_ne (ne_of_none e hD)]; exact e), fun p o e => ⟨o, by rw [upd_ne (ne_of_none e hD)]; exact e⟩, fun i p hp => .inl ⟨i, hp⟩⟩
  refine ⟨fun i m H => m = ds.length - i ∧ i ≤ ds.length ∧ ∃ F ρ α ac av rest, Wd X.K F H ρ (wipe σ vs) α ∧ Same F1 F ∧ GS F1 H1 (fun i => if i ∈ outs n vs then α1 i else []) F H α ∧ (∀ i ∈ outs n vs, ∀ p ∈ α1 i, p ∈ α i ∨ ∃ u, F p = some u) ∧ H D = some (.lst av) ∧ RepL X.K F ac av ∧ ac.length ≤ i ∧ F D = none ∧ (∀ i, D ∉ α i) ∧ mLcL vs g mt me (ds.drop i) ρ = some (rest, ρ') ∧ zs = ac ++ rest,
    ⟨ds.length, by omega, Nat.zero_le _, F1, wipeD ρ1 vs, _, [], [], zs, wV, Same.refl F1, gV, fun i hi p hp => .inl (by simp only [if_pos hi]; exact hp), upd_same, repL_nil.mpr rfl, Nat.zero_le _, fD, fun i hi => ?_, by rw [List.drop_zero]; exact h2, rfl⟩, ?_⟩
  · by_cases z : i ∈ outs n vs
    · simp only [if_pos z] at hi; exact nD i hi
    · simp only [if_neg z] at hi; cases hi
  rintro i m H ⟨rfl, hi, F, ρ, α, ac, av, rest, w, s1, gr, ko, hDH, rac, hac, hFD, hDα, hf, hz⟩
  have jj := j1 F H s1 w.sub i
  by_cases hlt : i < ds.length
  · have hd : ds[i]? = some ds[i] := List.getElem?_eq_getElem hlt
    obtain ⟨go, yl⟩ := jj.1 _ hd
    rw [List.drop_eq_getElem_cons hlt, mLcL_cons] at hf
    refine .inr ⟨go, fun H => ∃ F ρ α ac av rest, Wd X.K F H ρ (wipe σ vs) α ∧ Same F1 F ∧ GS F1 H1 (fun i => if i ∈ outs n vs then α1 i else []) F H α ∧ (∀ i ∈ outs n vs, ∀ p ∈ α1 i, p ∈ α i ∨ ∃ u, F p = some u) ∧ H D = some (.lst av) ∧ RepL X.K F ac av ∧ ac.length ≤ i + 1 ∧ F D = none ∧ (∀ i, D ∉ α i) ∧ mLcL vs g mt me (ds.drop (i + 1)) ρ = some (rest, ρ') ∧ zs = ac ++ rest,
      fun H' z => ⟨ds.length - (i + 1), by omega, rfl, hlt, z⟩, fun x H2 y => ?_⟩
    obtain ⟨F2, n2, r2⟩ := yl x H2 y
    have w2 := w.new n2
    have keep : ∀ {Fa Ha αa Fb Hb αb}, GS Fa Ha αa Fb Hb αb → Ha D = some (.lst av) → Fa D = none → (∀ i, D ∉ αa i) → Hb D = some (.lst av) ∧ Fb D = none ∧ ∀ i, D ∉ αb i := fun {Fa Ha αa Fb Hb αb} gg e1 e2 e3 => by
      refine ⟨gg.h D _ e1 e3, none_of_some fun u e => ?_, fun i hi => ?_⟩
      · rcases gg.n D u e e2 with z | ⟨i, z⟩
        · rw [e1] at z; cases z
        · exact e3 i z
      · rcases gg.a i D hi with ⟨j, z⟩ | z
        · exact e3 j z
        · rw [e1] at z; cases z
    obtain ⟨d2, f2, a2⟩ := keep (n2.gr (α := α)).toGS hDH hFD hDα
    cases h3 : g ds[i] ρ with
    | none => simp only [h3] at hf; cases hf
    | some ρ3 =>
      simp only [h3] at hf
      refine ⟨F2, ρ, α, ds[i], ρ3, w2, r2, h3, fun σ3 α3 w3 g3 k3 => ?_⟩
      have hw : wipe σ3 vs = wipe σ vs := by
        refine wipe_eq (n := n) ?_ (by rw [wipe_length]; exact hlen) fun j hj hjv => (k3.2 j (mem_outs hj hjv)).1
        rw [k3.1, wipe_length]
        exact hlen
      refine ⟨hw, ?_⟩
      have s3 : Same F1 F2 := s1.trans n2.f
      obtain ⟨d3, f3, a3⟩ := keep g3 d2 f2 a2
      have gr3 := (gr.trans (n2.gr (α := α)).toGS).trans g3
      have ko3 : ∀ i ∈ outs n vs, ∀ p ∈ α1 i, p ∈ α3 i ∨ ∃ u, F2 p = some u := fun i hi p hp => by
        rcases ko i hi p hp with z | ⟨u, z⟩
        · exact (k3.2 i hi).2 p z
        · exact .inr ⟨u, n2.f _ _ z⟩
      cases h4 : mt ρ3 with
      | none => simp only [h4] at hf; cases hf
      | some y4 =>
        obtain ⟨b, ρ4⟩ := y4
        refine ⟨F2, ρ3, α3, b, ρ4, w3, h4, fun F4 H4 α4 w4 g4 => ?_⟩
        obtain ⟨d4, f4, a4⟩ := keep g4.toGS d3 f3 a3
        have gr4 := gr3.trans g4.toGS
        have ko4 : ∀ i ∈ outs n vs, ∀ p ∈ α1 i, p ∈ α4 i ∨ ∃ u, F4 p = some u := fun i hi p hp => by
          rcases ko3 i hi p hp with z | ⟨u, z⟩
          · exact g4.o i p z
          · exact .inr ⟨u, g4.f _ _ z⟩
        cases b with
        | false =>
          simp only [h4] at hf
          refine iteF ?_
          exact ⟨F4, wipeD ρ4 vs, α4, ac, av, rest, w4.wiped hw, s3.trans g4.f, gr4, ko4, d4, RepL.mono (n2.f.trans g4.f) _ _ rac, by omega, f4, a4, hf, hz⟩
        | true =>
          simp only [h4] at hf
          refine iteT ?_
          cases h5 : me ρ4 with
          | none => simp only [h5] at hf; cases hf
          | some y5 =>
            obtain ⟨z5, ρ5⟩ := y5
            simp only [h5] at hf
            refine ⟨F4, ρ4, α4, z5, ρ5, w4, h5, fun v5 F5 H5 α5 w5 g5 r5 => ?_⟩
            obtain ⟨d5, f5, a5⟩ := keep g5.toGS d4 f4 a4
            have gr5 := gr4.trans g5.toGS
            have ko5 : ∀ i ∈ outs n vs, ∀ p ∈ α1 i, p ∈ α5 i ∨ ∃ u, F5 p = some u := fun i hi p hp => by
              rcases ko4 i hi p hp with z | ⟨u, z⟩
              · exact g5.o i p z
              · exact .inr ⟨u, g5.f _ _ z⟩
            have rav := RepL.mono ((n2.f.trans g4.f).trans g5.f) _ _ rac
            have hav : av.length = ac.length := rav.length
            refine ⟨av, d5, by rw [hav, sizeLine_eq]; omega, ?_⟩
            cases h6 : mLcL vs g mt me (ds.drop (i + 1)) (wipeD ρ5 vs) with
            | none => simp only [h6] at hf; cases hf
            | some y6 =>
              obtain ⟨zs6, ρ6⟩ := y6
              simp only [h6] at hf
              cases hf
              refine ⟨F5, wipeD ρ5 vs, α5, ac ++ [z5], av ++ [v5], zs6, (w5.side f5 a5 d5).wiped hw, (s3.trans g4.f).trans g5.f, ⟨gr5.f, gr5.n, fun p x e nn => ?_, fun p x e => ?_, gr5.a⟩, ko5, upd_same, rav.append (RepL.one r5), by rw [List.length_append, List.length_singleton]; omega, f5, a5, h6, by rw [hz, List.append_assoc]; rfl⟩
              · rw [upd_ne (ne_of_none e hD)]
                exact gr5.h p x e nn
              · obtain ⟨x', e'⟩ := gr5.k p x e
                rw [upd_ne (ne_of_none e hD)]
                exact ⟨x', e'⟩
  · have e' : i = ds.length := by omega
    subst e'
    rw [List.drop_length] at hf
    cases hf
    rw [List.append_nil] at hz
    subst hz
    have wu := w.unwiped
    -- the addresses of the slots that the block left alone come back
    have out1 : ∀ i, i ∉ outs n vs → ∀ p ∈ α1 i, (∀ j, p ∉ α j) ∧ F p = none ∧ ∃ o, H1 p = some o ∧ H p = some o := fun i hi p hp => by
      obtain ⟨o, ho⟩ := w1.live i p hp
      have nin : ∀ j, p ∉ (fun i => if i ∈ outs n vs then α1 i else []) j := fun j hj => by
        by_cases z : j ∈ outs n vs
        · simp only [if_pos z] at hj
          have := w1.disj i j p hp hj
          exact hi (this ▸ z)
        · simp only [if_neg z] at hj; cases hj
      refine ⟨fun j hj => ?_, none_of_some fun u e => ?_, o, ho, gr.h p o ho nin⟩
      · rcases gr.a j p hj with ⟨k, z⟩ | z
        · exact nin k z
        · rw [ho] at z; cases z
      · rcases gr.n p u e (w1.free i p hp) with z | ⟨k, z⟩
        · rw [ho] at z; cases z
        · exact nin k z
    have wF : Wd X.K F H ρ' σ (fun i => if i ∈ outs n vs then α i else α1 i) := by
      refine ⟨wu.sub, wu.len, fun i t ht => ?_, fun i p hp => ?_, fun i k p hi hk => ?_, fun i p hp => ?_⟩
      · obtain ⟨v, e1, e2⟩ := w.slot i t ht
        have hi : i ∈ outs n vs := by
          refine mem_outs ?_ (wipe_some e1).2
          have := (List.getElem?_eq_some_iff.mp e1).1
          rw [wipe_length, hlen] at this
          exact this
        refine ⟨v, (wipe_some e1).1, ?_⟩
        simp only [if_pos hi]
        exact e2
      · by_cases z : i ∈ outs n vs
        · simp only [if_pos z] at hp; exact w.free i p hp
        · simp only [if_neg z] at hp; exact (out1 i z p hp).2.1
      · by_cases z : i ∈ outs n vs
        · simp only [if_pos z] at hi
          by_cases z2 : k ∈ outs n vs
          · simp only [if_pos z2] at hk; exact w.disj i k p hi hk
          · simp only [if_neg z2] at hk; exact absurd hi ((out1 k z2 p hk).1 i)
        · simp only [if_neg z] at hi
          by_cases z2 : k ∈ outs n vs
          · simp only [if_pos z2] at hk; exact absurd hk ((out1 i z p hi).1 k)
          · simp only [if_neg z2] at hk; exact w1.disj i k p hi hk
      · by_cases z : i ∈ outs n vs
        · simp only [if_pos z] at hp; exact w.live i p hp
        · simp only [if_neg z] at hp
          obtain ⟨_, _, o, _, h⟩ := out1 i z p hp
          exact ⟨o, h⟩
    have gF : Gr F1 H1 α1 F H (fun i => if i ∈ outs n vs then α i else α1 i) := by
      refine ⟨⟨gr.f, fun p o e z => ?_, fun p o e z => gr.h p o e fun i hi => ?_, gr.k, fun i p hp => ?_⟩, fun i p hp => ?_⟩
      · rcases gr.n p o e z with y | ⟨k, y⟩
        · exact .inl y
        · by_cases z2 : k ∈ outs n vs
          · simp only [if_pos z2] at y; exact .inr ⟨k, y⟩
          · simp only [if_neg z2] at y; cases y
      · by_cases z2 : i ∈ outs n vs
        · simp only [if_pos z2] at hi; exact z i hi
        · simp only [if_neg z2] at hi; cases hi
      · by_cases z : i ∈ outs n vs
        · simp only [if_pos z] at hp
          rcases gr.a i p hp with ⟨k, y⟩ | y
          · by_cases z2 : k ∈ outs n vs
            · simp only [if_pos z2] at y; exact .inl ⟨k, y⟩
            · simp only [if_neg z2] at y; cases y
          · exact .inr y
        · simp only [if_neg z] at hp; exact .inl ⟨i, hp⟩
      · by_cases z : i ∈ outs n vs
        · simp only [if_pos z]; exact ko i z p hp
        · simp only [if_neg z]; exact .inl hp
    refine .inl ⟨jj.2 (Nat.le_refl _), q (.ref D) F H _ [D] wF (g1.trans gF) ⟨D, av, rfl, rfl, hDH, rac⟩ fun p hp => ?_⟩
    have e' : p = D := by simpa using hp
    subst e'
    refine ⟨hFD, hD0, fun i hi => ?_⟩
    by_cases z : i ∈ outs n vs
    · simp only [if_pos z] at hi; exact hDα i hi
    · simp only [if_neg z] at hi
      obtain ⟨o, ho⟩ := w1.live i p hi
      rw [hD] at ho; cases ho
theorem so_lc {mi : ML} {g : PyData → DEnv → Option DEnv} {mt : MT} {me : MV} (n : Nat) (hn : X.N.length = n := by rfl) (hc : X.calm = true) (hN : X.N.Nodup) (hi : SI X tg iter mi) (ok : BlkOk X.N X.env.scope scope own)
    (hg : ∀ (s : Shared) (H : Hp) (C : Addr) (cl : List (Str × Addr)) (fp : List Addr), SG (X.blk s H scope (compEnvC scope cl C X.env) fp) (outs n (own.map (·.2))) tg g) (ht : ∀ (s : Shared) (H : Hp) (C : Addr) (cl : List (Str × Addr)) (fp : List Addr), STs (X.blk s H scope (compEnvC scope cl C X.env) fp) ifs mt)
    (he : ∀ (s : Shared) (H : Hp) (C : Addr) (cl : List (Str × Addr)) (fp : List Addr), SV (X.blk s H scope (compEnvC scope cl C X.env) fp) elt me) (hs : ∀ x, foldedSetIterable iter X.env x = pure x := by intro _; rfl) :
    SO X (.ListComp elt [⟨tg, iter, ifs, 0⟩] scope pos) (mLc (own.map (·.2)) mi g mt me) :=
  ⟨fun pins s σ H Q I h => (pe_lc hc hN hi ok hg ht he hs).run pins s σ H Q I (tLc_of σ H Q h (I.len.trans hn))⟩
/-- name = [..] -/
theorem ss_asgLc {rts : List Nat} (i : Nat) {y : Str} {py spos : Pos} {mi : ML} {g : PyData → DEnv → Option DEnv} {mt : MT} {me : MV} (n : Nat) (hn : X.N.length = n := by rfl) (hc : X.calm = true) (hN : X.N.Nodup)
    (hsw : swapsWith (.ListComp elt [⟨tg, iter, ifs, 0⟩] scope pos) (some (.Name y py)) spos.line X.env = pure true) (hi : SI X tg iter mi) (ok : BlkOk X.N X.env.scope scope own)
    (hg : ∀ (s : Shared) (H : Hp) (C : Addr) (cl : List (Str × Addr)) (fp : List Addr), SG (X.blk s H scope (compEnvC scope cl C X.env) fp) (outs n (own.map (·.2))) tg g) (ht : ∀ (s : Shared) (H : Hp) (C : Addr) (cl : List (Str × Addr)) (fp : List Addr), STs (X.blk s H scope (compEnvC scope cl C X.env) fp) ifs mt)
    (he : ∀ (s : Shared) (H : Hp) (C : Addr) (cl : List (Str × Addr)) (fp : List Addr), SV (X.blk s H scope (compEnvC scope cl C X.env) fp) elt me) (hy : X.N[i]? = some y := by rfl) (hyl : X.env.scope.names.lookup y = some .local := by rfl) (hr : rts.contains i = false := by rfl) (hs : ∀ x, foldedSetIterable iter X.env x = pure x := by intro _; rfl) :
    SS X rts (.Assign [.Name y py] (.ListComp elt [⟨tg, iter, ifs, 0⟩] scope pos) spos) (mAsgO i (mLc (own.map (·.2)) mi g mt me)) :=
  ⟨fun pins s σ H D I h => (ps_setLc hc hN hy hyl hsw hi ok hg ht he hs).run pins s σ H D I (by
    have z := tAsgO (K := X.K) hr D σ H h
    exact tLc_of σ H _ z (I.len.trans hn))⟩
end
end Sem
-- SemE
/-! SemE: what a def promises; its call. -/
namespace Sem
open PySem L2

theorem tO_of_tV {K : PySem.W.Frag} {m : MO} : ∀ σ H Q, tV K (mFr m) σ H Q → tO K m σ H Q := fun σ H Q h => by
  obtain ⟨F, ρ, α, d, ρ', w, hm, q⟩ := h
  unfold mFr at hm
  cases hr : m ρ with
  | none => simp only [hr] at hm; cases hm
  | some x =>
    obtain ⟨t, ρ1⟩ := x
    simp only [hr] at hm
    cases hd : frT t with
    | none => simp only [hd] at hm; cases hm
    | some d' =>
      simp only [hd] at hm
      cases hm
      refine ⟨F, ρ, α, t, ρ', w, hr, fun v F' H' α' B w' g o hB => ?_⟩
      obtain ⟨F2, w2, g2, rp⟩ := Own.freeze w' g o hB hd
      exact q v F2 H' α' w2 g2 rp
section
variable {X : Cx} {elt tg iter : Expr} {ifs : List Expr} {scope : Scope} {own : List (Str × Nat)} {pos : Pos}
/-- name = [..], as data -/
theorem ss_asgLcD {rts : List Nat} (i : Nat) {y : Str} {py spos : Pos} {mi : ML} {g : PyData → DEnv → Option DEnv} {mt : MT} {me : MV} (n : Nat) (hn : X.N.length = n := by rfl) (hc : X.calm = true) (hN : X.N.Nodup)
    (hsw : swapsWith (.ListComp elt [⟨tg, iter, ifs, 0⟩] scope pos) (some (.Name y py)) spos.line X.env = pure true) (hi : SI X tg iter mi) (ok : BlkOk X.N X.env.scope scope own)
    (hg : ∀ (s : Shared) (H : Hp) (C : Addr) (cl : List (Str × Addr)) (fp : List Addr), SG (X.blk s H scope (compEnvC scope cl C X.env) fp) (outs n (own.map (·.2))) tg g) (ht : ∀ (s : Shared) (H : Hp) (C : Addr) (cl : List (Str × Addr)) (fp : List Addr), STs (X.blk s H scope (compEnvC scope cl C X.env) fp) ifs mt)
    (he : ∀ (s : Shared) (H : Hp) (C : Addr) (cl : List (Str × Addr)) (fp : List Addr), SV (X.blk s H scope (compEnvC scope cl C X.env) fp) elt me) (hy : X.N[i]? = some y := by rfl) (hyl : X.env.scope.names.lookup y = some .local := by rfl) (hr : rts.contains i = false := by rfl) (hs : ∀ x, foldedSetIterable iter X.env x = pure x := by intro _; rfl) :
    SS X rts (.Assign [.Name y py] (.ListComp elt [⟨tg, iter, ifs, 0⟩] scope pos) spos) (mAsg i (mFr (mLc (own.map (·.2)) mi g mt me))) :=
  ⟨fun pins s σ H D I h => (ps_setLc hc hN hy hyl hsw hi ok hg ht he hs).run pins s σ H D I (by
    have z := tAsgD (K := X.K) hr D σ H h
    exact tLc_of σ H _ (tO_of_tV σ H _ z) (I.len.trans hn))⟩
end

/-! ### what a def promises -/
def isOwn : Option T → Bool
  | some (.lst _) => true
  | _ => false
def okP (n : Nat) (rts : List Nat) (ρ : DEnv) : Bool := decide (ρ.length = n) && (List.range n).all fun i => rts.contains i || !isOwn (ρ.getD i none)
def fin (n : Nat) (rts : List Nat) (ρ : DEnv) : DEnv := (List.range n).map fun i => if rts.contains i then ρ.getD i none else none
/-- n parameters, N names -/
def mFn (n N : Nat) (rts : List Nat) (mb : MS) : DEnv → Option (T × DEnv) := fun ρ => if okP n rts ρ then match mb (ρ ++ List.replicate (N - n) none) with
  | some (.ret t, ρ2) => some (t, fin n rts ρ2)
  | some (.nx, ρ2) => some (.dat .none, fin n rts ρ2)
  | _ => none
  else none
def Tight (ρ : DEnv) (α : Nat → List Addr) : Prop := ∀ i p, p ∈ α i → isOwn (ρ.getD i none) = true
def spD (K : PySem.W.Frag) (n : Nat) (f : DEnv → Option (T × DEnv)) : Sp := fun vs H Q _ => ∃ F ρ α t ρ', Wd K F H ρ (vs.map some) α ∧ Tight ρ α ∧ ρ.length = n ∧ f ρ = some (t, ρ') ∧
  ∀ v F' H' α' B, Wd K F' H' ρ' (vs.map some) α' → Gr F H α F' H' α' → Own K F' H' t v B → (∀ p ∈ B, F' p = none ∧ H p = none ∧ ∀ i, p ∉ α' i) → Q v H'
theorem spD.len {K : PySem.W.Frag} {n : Nat} {f : DEnv → Option (T × DEnv)} {vs : List V} {H : Hp} {Q : VK} {E : XK} (h : spD K n f vs H Q E) : vs.length = n := by
  obtain ⟨F, ρ, α, t, ρ', w, _, hn, _⟩ := h
  have := w.len
  rw [List.length_map] at this
  omega
theorem spD.imp {K : PySem.W.Frag} {n : Nat} {f f' : DEnv → Option (T × DEnv)} (i : ∀ ρ x, f' ρ = some x → f ρ = some x) {vs : List V} {H : Hp} {Q : VK} {E : XK} (h : spD K n f' vs H Q E) : spD K n f vs H Q E := by
  obtain ⟨F, ρ, α, t, ρ', w, ht, hn, hf, q⟩ := h
  exact ⟨F, ρ, α, t, ρ', w, ht, hn, i _ _ hf, q⟩
theorem getD_app {ρ : DEnv} {n i : Nat} (h : i < ρ.length) : (ρ ++ List.replicate n none)[i]? = ρ[i]? := List.getElem?_append_left h
theorem fn_start {K : PySem.W.Frag} {n N : Nat} {rts : List Nat} {mb : MS} {vs : List V} {H : Hp} {Q : VK} {E : XK} (hn : n ≤ N) (h : spD K n (mFn n N rts mb) vs H Q E) :
    tS K rts mb { nx := fun _ H' => Q .non H', rt := Q } (vs.map some ++ List.replicate (N - vs.length) none) H := by
  have hl := h.len
  obtain ⟨F, ρ, α, t, ρ', w, tight, hρ, hf, q⟩ := h
  unfold mFn at hf
  split at hf
  case isFalse => cases hf
  rename_i hok
  have wl := w.len
  rw [List.length_map] at wl
  have w1 : Wd K F H (ρ ++ List.replicate (N - n) none) (vs.map some ++ List.replicate (N - vs.length) none) α := by
    refine ⟨w.sub, by simp; omega, fun i t ht => ?_, w.free, w.disj, w.live⟩
    by_cases hi : i < ρ.length
    · rw [List.getElem?_append_left hi] at ht
      obtain ⟨v, e1, e2⟩ := w.slot i t ht
      refine ⟨v, ?_, e2⟩
      rw [List.getElem?_append_left (by rw [List.length_map]; omega)]
      exact e1
    · rw [List.getElem?_append_right (by omega)] at ht
      rw [List.getElem?_replicate] at ht
      split at ht <;> cases ht
  -- the end, from a run's last state
  have done : ∀ {v : V} {σ' : L2.St} {F' H' : Hp} {α' : Nat → List Addr} {B : List Addr} {t' : T} {ρ2 : DEnv}, Wd K F' H' ρ2 σ' α' → GS F H α F' H' α' → Kp rts F' (vs.map some ++ List.replicate (N - vs.length) none) α σ' α' → Own K F' H' t' v B → (∀ p ∈ B, F' p = none ∧ (H p = none ∨ ∃ i, p ∈ α i) ∧ ∀ i, p ∉ α' i) →
      (t, ρ') = (t', fin n rts ρ2) → Q v H' := fun {v σ' F' H' α' B t' ρ2} w' g k ow hB e => by
    cases e
    have own_rts : ∀ i p, p ∈ α i → i < n ∧ i ∈ rts := fun i p hp => by
      have ti := tight i p hp
      have hi : i < n := by
        by_cases z : i < n
        · exact z
        · rw [List.getD_eq_getElem?_getD, List.getElem?_eq_none (by omega)] at ti
          cases ti
      refine ⟨hi, ?_⟩
      unfold okP at hok
      rw [Bool.and_eq_true] at hok
      have := List.all_eq_true.mp hok.2 i (List.mem_range.mpr hi)
      rw [ti, Bool.not_true, Bool.or_false, List.contains_eq_mem] at this
      exact of_decide_eq_true this
    have fl : (fin n rts ρ2).length = n := by unfold fin; rw [List.length_map, List.length_range]
    refine q v F' H' (fun i => if i ∈ rts ∧ i < n then α' i else []) B ⟨w'.sub, by rw [List.length_map, fl]; omega, fun i t' ht => ?_, fun i p hp => ?_, fun i j p hi hj => ?_, fun i p hp => ?_⟩
      ⟨⟨g.f, g.n, g.h, g.k, fun i p hp => ?_⟩, fun i p hp => ?_⟩ ow fun p hp => ⟨(hB p hp).1, ?_, fun i hi => ?_⟩
    · have hi : i < n := by
        have := (List.getElem?_eq_some_iff.mp ht).1
        rw [fl] at this
        exact this
      unfold fin at ht
      rw [List.getElem?_map, List.getElem?_range hi] at ht
      simp only [Option.map_some, Option.some.injEq] at ht
      split at ht
      · rename_i hc
        have hr : i ∈ rts := by rw [List.contains_eq_mem] at hc; exact of_decide_eq_true hc
        have h2 : ρ2[i]? = some (some t') := by
          rw [List.getD_eq_getElem?_getD] at ht
          cases e2 : ρ2[i]? with
          | none => rw [e2] at ht; cases ht
          | some o => rw [e2] at ht; exact congrArg some ht
        obtain ⟨v', e1, e2⟩ := w'.slot i t' h2
        rw [(k.2 i hr).1, List.getElem?_append_left (by rw [List.length_map]; omega)] at e1
        refine ⟨v', e1, ?_⟩
        simp only [if_pos (show i ∈ rts ∧ i < n from ⟨hr, hi⟩)]
        exact e2
      · cases ht
    · by_cases z : i ∈ rts ∧ i < n
      · simp only [if_pos z] at hp; exact w'.free i p hp
      · simp only [if_neg z] at hp; cases hp
    · by_cases z : i ∈ rts ∧ i < n
      · simp only [if_pos z] at hi
        by_cases z2 : j ∈ rts ∧ j < n
        · simp only [if_pos z2] at hj; exact w'.disj i j p hi hj
        · simp only [if_neg z2] at hj; cases hj
      · simp only [if_neg z] at hi; cases hi
    · by_cases z : i ∈ rts ∧ i < n
      · simp only [if_pos z] at hp; exact w'.live i p hp
      · simp only [if_neg z] at hp; cases hp
    · by_cases z : i ∈ rts ∧ i < n
      · simp only [if_pos z] at hp; exact g.a i p hp
      · simp only [if_neg z] at hp; cases hp
    · obtain ⟨hi, hr⟩ := own_rts i p hp
      simp only [if_pos (show i ∈ rts ∧ i < n from ⟨hr, hi⟩)]
      exact (k.2 i hr).2 p hp
    · rcases (hB p hp).2.1 with z | ⟨i, z⟩
      · exact z
      · obtain ⟨hi, hr⟩ := own_rts i p z
        rcases (k.2 i hr).2 p z with y | ⟨u, y⟩
        · exact absurd y ((hB p hp).2.2 i)
        · rw [(hB p hp).1] at y; cases y
    · by_cases z : i ∈ rts ∧ i < n
      · simp only [if_pos z] at hi; exact (hB p hp).2.2 i hi
      · simp only [if_neg z] at hi; cases hi
  cases hb : mb (ρ ++ List.replicate (N - n) none) with
  | none => simp only [hb] at hf; cases hf
  | some x =>
    obtain ⟨o, ρ2⟩ := x
    refine ⟨F, _, α, o, ρ2, w1, hb, ?_⟩
    cases o with
    | nx =>
      simp only [hb] at hf
      exact fun σ' F' H' α' w' g k => done (v := .non) (B := []) (t' := .dat .none) w' g k ⟨rep_none.mpr rfl, rfl⟩ (fun _ hp => by cases hp) (Option.some.inj hf).symm
    | ret t' =>
      simp only [hb] at hf
      exact fun v σ' F' H' α' B w' g k ow hB => done w' g k ow hB (Option.some.inj hf).symm
    | bk => simp only [hb] at hf; cases hf
    | ct => simp only [hb] at hf; cases hf

section
variable {P : Program} {w : World} {K : PySem.W.Frag} {mg : Str → Option Value} {base : Heap}
/-- THE RULE for a def -/
theorem fn_ok {x qual : Str} {st : Stmt} {f : Addr} {fd : FuncData} {N ps : List Str} {k n NN : Nat} {rts : List Nat} {mb : MS} (F : Fun K x qual st f fd) (S : FnScope N ps (defScope st)) (hps : ps.length = n) (hN : N.length = NN) (hle : n ≤ NN)
    (hbody : ∀ (cdv : Value) (A : Around) (outer : List Env) (s : Shared) (H : Hp) (E : XK), Room k (A.deeper (PyProof.Rows.envOfC qual (defScope st) s.heap.objs.size f cdv)) →
      SB (cxOf CX0 P w K mg base N qual (defScope st) f cdv A outer s H E).nox rts (defBody st) mb) : FnOk P w K mg base CX0 (k + 1) f fd ps (spD K n (mFn n NN rts mb)) := by
  refine F.ok S (fun vs H Q E h => by rw [h.len, hps]) fun cdv A outer s H vs Q E hr h => ?_
  refine ⟨_, hbody cdv A outer s H E hr, ?_⟩
  have z := fn_start hle h
  unfold L2.start
  rw [hN]
  exact z
end

/-! ### its call -/
def argT (ρ : DEnv) : R → Option (Option T)
  | .dat d => some (some (.dat d))
  | .loc i => match ρ[i]? with
    | some (some (.lst ds)) => some (some (.lst ds))
    | some (some (.scr a ns)) => some (some (.scr a ns))
    | _ => none
def argsT (ρ : DEnv) : List R → Option DEnv
  | [] => some []
  | r :: rs => match argT ρ r, argsT ρ rs with
    | some t, some ts => some (t :: ts)
    | _, _ => none
def hasLoc (i : Nat) : List R → Bool
  | [] => false
  | .loc j :: rs => j == i || hasLoc i rs
  | .dat _ :: rs => hasLoc i rs
def distinct : List R → Bool
  | [] => true
  | .loc j :: rs => !hasLoc j rs && distinct rs
  | .dat _ :: rs => distinct rs
def putBack : List R → DEnv → DEnv → DEnv
  | .loc i :: rs, t :: ts, ρ => putBack rs ts (ρ.set i t)
  | .dat _ :: rs, _ :: ts, ρ => putBack rs ts ρ
  | _, _, ρ => ρ
def mCl (f : DEnv → Option (T × DEnv)) (ma : MA) : MO := fun ρ => match ma ρ with
  | some (rs, ρ1) => if distinct rs then match argsT ρ1 rs with
    | some ρc => match f ρc with
      | some (t, ρc') => some (t, putBack rs ρc' ρ1)
      | none => none
    | none => none
    else none
  | none => none
/-- the place of a slot among the arguments -/
def locAt (i : Nat) : List R → Option Nat
  | [] => none
  | .loc j :: rs => if j = i then some 0 else (locAt i rs).map (· + 1)
  | .dat _ :: rs => (locAt i rs).map (· + 1)
theorem locAt_some : ∀ {rs : List R} {i j : Nat}, locAt i rs = some j → rs[j]? = some (.loc i)
  | [], i, j, h => by cases h
  | .loc k :: rs, i, j, h => by
    unfold locAt at h
    split at h
    · rename_i e
      cases h
      rw [e]
      rfl
    · cases e : locAt i rs with
      | none => rw [e] at h; cases h
      | some m =>
        rw [e] at h
        cases h
        simpa using locAt_some e
  | .dat d :: rs, i, j, h => by
    unfold locAt at h
    cases e : locAt i rs with
    | none => rw [e] at h; cases h
    | some m =>
      rw [e] at h
      cases h
      simpa using locAt_some e
theorem hasLoc_of : ∀ {rs : List R} {i j : Nat}, rs[j]? = some (.loc i) → hasLoc i rs = true
  | [], i, j, h => by simp at h
  | .loc k :: rs, i, 0, h => by
    have e : k = i := by simpa using h
    subst e
    unfold hasLoc
    simp
  | .dat d :: rs, i, 0, h => by simp at h
  | .loc k :: rs, i, j + 1, h => by
    unfold hasLoc
    rw [hasLoc_of (j := j) (by simpa using h), Bool.or_true]
  | .dat d :: rs, i, j + 1, h => by
    unfold hasLoc
    exact hasLoc_of (j := j) (by simpa using h)
theorem locAt_of : ∀ {rs : List R} {i j : Nat}, distinct rs = true → rs[j]? = some (.loc i) → locAt i rs = some j
  | [], i, j, _, h => by simp at h
  | .loc k :: rs, i, 0, _, h => by
    have e : k = i := by simpa using h
    subst e
    unfold locAt
    rw [if_pos rfl]
  | .dat d :: rs, i, 0, _, h => by simp at h
  | .loc k :: rs, i, j + 1, d, h => by
    unfold distinct at d
    rw [Bool.and_eq_true] at d
    have h' : rs[j]? = some (.loc i) := by simpa using h
    have hi := hasLoc_of h'
    have ne : k ≠ i := fun e => by
      rw [e, hi] at d
      exact absurd d.1 (by simp)
    unfold locAt
    rw [if_neg ne, locAt_of d.2 h']
    rfl
  | .dat d' :: rs, i, j + 1, d, h => by
    unfold distinct at d
    unfold locAt
    rw [locAt_of (j := j) d (by simpa using h)]
    rfl
theorem argsT_length {ρ : DEnv} : ∀ {rs : List R} {ts : DEnv}, argsT ρ rs = some ts → ts.length = rs.length
  | [], ts, h => by cases h; rfl
  | r :: rs, ts, h => by
    unfold argsT at h
    split at h
    · rename_i t ts' h1 h2
      cases h
      rw [List.length_cons, List.length_cons, argsT_length h2]
    · cases h
theorem argsT_get {ρ : DEnv} : ∀ {rs : List R} {ts : DEnv} {j : Nat} {r : R}, argsT ρ rs = some ts → rs[j]? = some r → ∃ t, argT ρ r = some t ∧ ts[j]? = some t
  | [], ts, j, r, _, h => by simp at h
  | r0 :: rs, ts, 0, r, h, hr => by
    unfold argsT at h
    split at h
    · rename_i t ts' h1 h2
      cases h
      have e : r0 = r := by simpa using hr
      subst e
      exact ⟨t, h1, rfl⟩
    · cases h
  | r0 :: rs, ts, j + 1, r, h, hr => by
    unfold argsT at h
    split at h
    · rename_i t ts' h1 h2
      cases h
      obtain ⟨t', e1, e2⟩ := argsT_get (j := j) h2 (by simpa using hr)
      exact ⟨t', e1, by simpa using e2⟩
    · cases h
theorem ArgsOk.length {K : PySem.W.Frag} {F : Hp} {σ : L2.St} : ∀ {rs : List R} {vs : List V}, ArgsOk K F σ rs vs → vs.length = rs.length
  | [], vs, h => by cases h; rfl
  | r :: rs, vs, ⟨v, vr, e, _, h⟩ => by rw [e, List.length_cons, List.length_cons, h.length]
theorem ArgsOk.get {K : PySem.W.Frag} {F : Hp} {σ : L2.St} : ∀ {rs : List R} {vs : List V} {j : Nat} {r : R}, ArgsOk K F σ rs vs → rs[j]? = some r → ∃ v, vs[j]? = some v ∧ ResOk K F σ r v
  | [], vs, j, r, _, hr => by simp at hr
  | r0 :: rs, vs, 0, r, ⟨v, vr, e, h1, h⟩, hr => by
    have e' : r0 = r := by simpa using hr
    subst e'
    exact ⟨v, by rw [e]; rfl, h1⟩
  | r0 :: rs, vs, j + 1, r, ⟨v, vr, e, h1, h⟩, hr => by
    obtain ⟨v', e1, e2⟩ := ArgsOk.get (j := j) h (by simpa using hr)
    exact ⟨v', by rw [e]; simpa using e1, e2⟩
theorem putBack_length : ∀ (rs : List R) (ts ρ : DEnv), (putBack rs ts ρ).length = ρ.length
  | .loc i :: rs, t :: ts, ρ => by
    unfold putBack
    rw [putBack_length rs ts, List.length_set]
  | .dat _ :: rs, t :: ts, ρ => by
    unfold putBack
    exact putBack_length rs ts ρ
  | [], ts, ρ => by unfold putBack; rfl
  | .loc i :: rs, [], ρ => by unfold putBack; rfl
  | .dat i :: rs, [], ρ => by unfold putBack; rfl
theorem putBack_out : ∀ (rs : List R) (ts ρ : DEnv) (i : Nat), locAt i rs = none → (putBack rs ts ρ)[i]? = ρ[i]?
  | .loc k :: rs, t :: ts, ρ, i, h => by
    unfold locAt at h
    split at h
    · cases h
    · rename_i ne
      have h' : locAt i rs = none := by
        cases e : locAt i rs with
        | none => rfl
        | some m => rw [e] at h; cases h
      unfold putBack
      rw [putBack_out rs ts _ i h', List.getElem?_set_ne ne]
  | .dat _ :: rs, t :: ts, ρ, i, h => by
    unfold locAt at h
    have h' : locAt i rs = none := by
      cases e : locAt i rs with
      | none => rfl
      | some m => rw [e] at h; cases h
    unfold putBack
    exact putBack_out rs ts ρ i h'
  | [], ts, ρ, i, h => by unfold putBack; rfl
  | .loc i :: rs, [], ρ, _, _ => by unfold putBack; rfl
  | .dat i :: rs, [], ρ, _, _ => by unfold putBack; rfl
theorem locAt_none {i : Nat} : ∀ {rs : List R}, hasLoc i rs = false → locAt i rs = none
  | [], _ => rfl
  | .loc j :: rs, h => by
    unfold hasLoc at h
    rw [Bool.or_eq_false_iff] at h
    unfold locAt
    rw [if_neg (by simpa using h.1), locAt_none h.2]
    rfl
  | .dat j :: rs, h => by
    unfold hasLoc at h
    unfold locAt
    rw [locAt_none h]
    rfl
theorem putBack_in : ∀ (rs : List R) (ts ρ : DEnv) (i j : Nat), distinct rs = true → ts.length = rs.length → i < ρ.length → rs[j]? = some (.loc i) → (putBack rs ts ρ)[i]? = ts[j]?
  | [], ts, ρ, i, j, _, _, _, h => by simp at h
  | .loc k :: rs, [], ρ, i, j, _, hl, _, h => by simp at hl
  | .dat k :: rs, [], ρ, i, j, _, hl, _, h => by simp at hl
  | .loc k :: rs, t :: ts, ρ, i, 0, d, hl, hi, h => by
    have e : k = i := by simpa using h
    subst e
    unfold distinct at d
    rw [Bool.and_eq_true] at d
    have hk : hasLoc k rs = false := by simpa using d.1
    unfold putBack
    rw [putBack_out rs ts _ k (locAt_none hk), List.getElem?_set_self hi]
    rfl
  | .dat _ :: rs, t :: ts, ρ, i, 0, _, _, _, h => by simp at h
  | .loc k :: rs, t :: ts, ρ, i, j + 1, d, hl, hi, h => by
    unfold distinct at d
    rw [Bool.and_eq_true] at d
    unfold putBack
    rw [putBack_in rs ts _ i j d.2 (by simpa using hl) (by rw [List.length_set]; exact hi) (by simpa using h)]
    rfl
  | .dat _ :: rs, t :: ts, ρ, i, j + 1, d, hl, hi, h => by
    unfold distinct at d
    unfold putBack
    rw [putBack_in rs ts ρ i j d (by simpa using hl) hi (by simpa using h)]
    rfl
/-- the callee's addresses -/
def alC (rs : List R) (α : Nat → List Addr) : Nat → List Addr := fun j => match rs[j]? with
  | some (.loc i) => α i
  | _ => []
theorem call_in {K : PySem.W.Frag} {F H : Hp} {ρ ρc : DEnv} {σ : L2.St} {α : Nat → List Addr} {rs : List R} {vs : List V} (w : Wd K F H ρ σ α) (a : ArgsOk K F σ rs vs) (hd : distinct rs = true) (ht : argsT ρ rs = some ρc) : Wd K F H ρc (vs.map some) (alC rs α) ∧ Tight ρc (alC rs α) := by
  have hc : ρc.length = rs.length := argsT_length ht
  have inn : ∀ j p, p ∈ alC rs α j → ∃ i, rs[j]? = some (.loc i) ∧ p ∈ α i := fun j p hp => by
    unfold alC at hp
    split at hp
    · rename_i i hi
      exact ⟨i, hi, hp⟩
    · cases hp
  refine ⟨⟨w.sub, by rw [List.length_map, a.length, hc], fun j t hj => ?_, fun j p hp => ?_, fun j k p hj hk => ?_, fun j p hp => ?_⟩, fun j p hp => ?_⟩
  · have hlt : j < rs.length := by
      have := (List.getElem?_eq_some_iff.mp hj).1
      omega
    have hr : rs[j]? = some rs[j] := List.getElem?_eq_getElem hlt
    obtain ⟨t', e1, e2⟩ := argsT_get ht hr
    rw [e2] at hj
    cases hj
    obtain ⟨v, e3, e4⟩ := a.get hr
    refine ⟨v, by rw [List.getElem?_map, e3]; rfl, ?_⟩
    unfold alC
    rw [hr]
    cases hrj : rs[j] with
    | dat d =>
      rw [hrj] at e1 e4
      cases e1
      exact ⟨e4, rfl⟩
    | loc i =>
      rw [hrj] at e1 e4
      unfold argT at e1
      simp only at e1
      split at e1
      · rename_i ds hs
        cases e1
        obtain ⟨u, g1, g2⟩ := w.slot i _ hs
        have hv : σ[i]? = some (some v) := e4
        rw [hv] at g1
        cases g1
        exact g2
      · rename_i a ns hs
        cases e1
        obtain ⟨u, g1, g2, g3, g4⟩ := w.slot i _ hs
        have hv : σ[i]? = some (some v) := e4
        rw [hv] at g1
        cases g1
        refine ⟨g2, g3, g4⟩
      · cases e1
  · obtain ⟨i, _, h2⟩ := inn j p hp
    exact w.free i p h2
  · obtain ⟨i, h1, h2⟩ := inn j p hj
    obtain ⟨i', h3, h4⟩ := inn k p hk
    have e := w.disj i i' p h2 h4
    subst e
    have e1 := locAt_of hd h1
    have e2 := locAt_of hd h3
    rw [e1] at e2
    cases e2
    rfl
  · obtain ⟨i, _, h2⟩ := inn j p hp
    exact w.live i p h2
  · obtain ⟨i, h1, h2⟩ := inn j p hp
    obtain ⟨t, e1, e2⟩ := argsT_get ht h1
    rw [List.getD_eq_getElem?_getD, e2]
    unfold argT at e1
    simp only at e1
    split at e1
    · cases e1
      rfl
    · rename_i a ns hs
      obtain ⟨u, _, _, _, g4⟩ := w.slot i _ hs
      rw [g4] at h2
      cases h2
    · cases e1
theorem call_out {K : PySem.W.Frag} {F H F' H' : Hp} {ρ ρc ρc' : DEnv} {σ : L2.St} {α α' : Nat → List Addr} {rs : List R} {vs : List V} (w : Wd K F H ρ σ α) (a : ArgsOk K F σ rs vs) (hd : distinct rs = true) (ht : argsT ρ rs = some ρc)
    (w' : Wd K F' H' ρc' (vs.map some) α') (g : Gr F H (alC rs α) F' H' α') :
    ∃ α2, Wd K F' H' (putBack rs ρc' ρ) σ α2 ∧ Gr F H α F' H' α2 ∧ ∀ p, H p = none → (∀ i, p ∉ α' i) → ∀ i, p ∉ α2 i := by
  have hc' : ρc'.length = rs.length := by
    have := w'.len
    rw [List.length_map, a.length] at this
    omega
  have inn : ∀ j p, p ∈ alC rs α j → ∃ i, rs[j]? = some (.loc i) ∧ p ∈ α i := fun j p hp => by
    unfold alC at hp
    split at hp
    · rename_i i hi
      exact ⟨i, hi, hp⟩
    · cases hp
  have inn2 : ∀ i j p, rs[j]? = some (.loc i) → p ∈ α i → p ∈ alC rs α j := fun i j p h hp => by
    unfold alC
    rw [h]
    exact hp
  -- what lies at slots that aren't handed on
  have apart : ∀ i p, locAt i rs = none → p ∈ α i → ∀ j, p ∉ alC rs α j := fun i p h hp j hj => by
    obtain ⟨i', h1, h2⟩ := inn j p hj
    have e := w.disj i i' p hp h2
    subst e
    rw [locAt_of hd h1] at h
    cases h
  have loc_lt : ∀ (i j : Nat), rs[j]? = some (R.loc i) → i < ρ.length := fun i j h => by
    obtain ⟨t, e1, _⟩ := argsT_get ht h
    unfold argT at e1
    simp only at e1
    split at e1
    · rename_i ds hs
      exact (List.getElem?_eq_some_iff.mp hs).1
    · rename_i ds hs
      exact (List.getElem?_eq_some_iff.mp hs).1
    · cases e1
  have nin : ∀ i p, locAt i rs = none → p ∈ α i → (∀ j, p ∉ α' j) ∧ F' p = none ∧ ∃ o, H p = some o ∧ H' p = some o := fun i p h hp => by
    obtain ⟨o, ho⟩ := w.live i p hp
    have ap := apart i p h hp
    refine ⟨fun j hj => ?_, none_of_some fun u e => ?_, o, ho, g.h p o ho ap⟩
    · rcases g.a j p hj with ⟨k, z⟩ | z
      · exact ap k z
      · rw [ho] at z; cases z
    · rcases g.n p u e (w.free i p hp) with z | ⟨k, z⟩
      · rw [ho] at z; cases z
      · exact ap k z
  let β : Nat → List Addr := fun i => match locAt i rs with
    | some j => α' j
    | none => α i
  have hβ1 : ∀ i j, locAt i rs = some j → β i = α' j := fun i j h => by
    show (match locAt i rs with | some j => α' j | none => α i) = α' j
    rw [h]
  have hβ2 : ∀ i, locAt i rs = none → β i = α i := fun i h => by
    show (match locAt i rs with | some j => α' j | none => α i) = α i
    rw [h]
  refine ⟨β, ⟨w'.sub, by rw [putBack_length]; exact w.len, fun i t hi => ?_, fun i p hp => ?_, fun i k p hi hk => ?_, fun i p hp => ?_⟩, ⟨⟨g.f, fun p o e z => ?_, fun p o e z => g.h p o e fun j hj => ?_, g.k, fun i p hp => ?_⟩, fun i p hp => ?_⟩, fun p hp hn i hi => ?_⟩
  · cases e : locAt i rs with
    | none =>
      rw [putBack_out _ _ _ _ e] at hi
      obtain ⟨v, e1, e2⟩ := w.slot i t hi
      refine ⟨v, e1, ?_⟩
      rw [hβ2 i e]
      exact e2.frame g.f fun p hp o ho => by
        obtain ⟨_, _, o', h1, h2⟩ := nin i p e hp
        rw [ho] at h1
        cases h1
        exact h2
    | some j =>
      have hj := locAt_some e
      rw [putBack_in _ _ _ _ _ hd hc' (loc_lt i j hj) hj] at hi
      obtain ⟨v, e1, e2⟩ := w'.slot j t hi
      obtain ⟨v', e3, e4⟩ := a.get hj
      rw [List.getElem?_map, e3] at e1
      cases e1
      refine ⟨v, e4, ?_⟩
      rw [hβ1 i j e]
      exact e2
  · cases e : locAt i rs with
    | none => rw [hβ2 i e] at hp; exact (nin i p e hp).2.1
    | some j => rw [hβ1 i j e] at hp; exact w'.free j p hp
  · cases e : locAt i rs with
    | none =>
      rw [hβ2 i e] at hi
      cases e2 : locAt k rs with
      | none => rw [hβ2 k e2] at hk; exact w.disj i k p hi hk
      | some j => rw [hβ1 k j e2] at hk; exact absurd hk ((nin i p e hi).1 j)
    | some j =>
      rw [hβ1 i j e] at hi
      cases e2 : locAt k rs with
      | none => rw [hβ2 k e2] at hk; exact absurd hi ((nin k p e2 hk).1 j)
      | some j2 =>
        rw [hβ1 k j2 e2] at hk
        have := w'.disj j j2 p hi hk
        subst this
        have h1 := locAt_some e
        have h2 := locAt_some e2
        rw [h1] at h2
        cases h2
        rfl
  · cases e : locAt i rs with
    | none =>
      rw [hβ2 i e] at hp
      obtain ⟨_, _, o, _, h⟩ := nin i p e hp
      exact ⟨o, h⟩
    | some j => rw [hβ1 i j e] at hp; exact w'.live j p hp
  · rcases g.n p o e z with y | ⟨j, y⟩
    · exact .inl y
    · obtain ⟨i, _, h2⟩ := inn j p y
      exact .inr ⟨i, h2⟩
  · obtain ⟨i, _, h2⟩ := inn j p hj
    exact z i h2
  · cases e : locAt i rs with
    | none => rw [hβ2 i e] at hp; exact .inl ⟨i, hp⟩
    | some j =>
      rw [hβ1 i j e] at hp
      rcases g.a j p hp with ⟨k, y⟩ | y
      · obtain ⟨i', _, h2⟩ := inn k p y
        exact .inl ⟨i', h2⟩
      · exact .inr y
  · cases e : locAt i rs with
    | none => rw [hβ2 i e]; exact .inl hp
    | some j =>
      rw [hβ1 i j e]
      exact g.o j p (inn2 i j p (locAt_some e) hp)
  · cases e : locAt i rs with
    | none =>
      rw [hβ2 i e] at hi
      obtain ⟨o, ho⟩ := w.live i p hi
      rw [hp] at ho; cases ho
    | some j => rw [hβ1 i j e] at hi; exact hn j hi
section
variable {X : Cx} {k n : Nat} {f : Addr} {fd : FuncData} {ps : List Str} {x : Str} {p pos : Pos} {e : Expr} {es : List Expr} {g : DEnv → Option (T × DEnv)} {ma : MA}
theorem tCall_of {E : XK} (hps : ps.length = n) (F : FnOk X.prog X.w X.K X.mg X.base CX0 k f fd ps (spD X.K n g)) : ∀ σ H Q, (∀ ρ rs ρ', ma ρ = some (rs, ρ') → rs.length = n) → tO X.K (mCl g ma) σ H Q → tCall (spD X.K n g) [] E (tA X.K ma) σ H Q := fun σ H Q hl h => by
  obtain ⟨F0, ρ, α, t, ρ', w, hm, q⟩ := h
  unfold mCl at hm
  split at hm
  case h_2 => cases hm
  rename_i rs ρ1 h1
  split at hm
  case isFalse => cases hm
  rename_i hd
  split at hm
  case h_2 => cases hm
  rename_i ρc h2
  split at hm
  case h_2 => cases hm
  rename_i t' ρc' h3
  cases hm
  refine ⟨F0, ρ, α, rs, ρ1, w, h1, fun vs F1 H1 α1 w1 g1 a1 => ?_⟩
  obtain ⟨wc, tc⟩ := call_in w1 a1 hd h2
  rw [List.append_nil]
  refine ⟨F1, ρc, alC rs α1, t, ρc', wc, tc, by rw [argsT_length h2, hl _ _ _ h1], h3, fun v F' H' α' B w' g' ow hB => ?_⟩
  obtain ⟨α2, w2, g2, k2⟩ := call_out w1 a1 hd h2 w' g'
  refine q v F' H' α2 B w2 (g1.trans g2) ow fun r hr => ⟨(hB r hr).1, none_of_some fun u eu => ?_, k2 r (hB r hr).2.1 (hB r hr).2.2⟩
  obtain ⟨u', e'⟩ := g1.k _ _ eu
  rw [(hB r hr).2.1] at e'
  cases e'
theorem mA_len : ∀ {m : ME} {ma : MA} {n : Nat}, (∀ ρ rs ρ', ma ρ = some (rs, ρ') → rs.length = n) → ∀ ρ rs ρ', mA1 m ma ρ = some (rs, ρ') → rs.length = n + 1 := fun {m ma n} h ρ rs ρ' e => by
  unfold mA1 at e
  split at e
  · split at e
    · rename_i rs' ρ2 h2
      cases e
      rw [List.length_cons, h _ _ _ h2]
    · cases e
  · cases e
theorem mA_len0 : ∀ ρ rs ρ', mA0 ρ = some (rs, ρ') → rs.length = 0 := fun ρ rs ρ' e => by
  cases e
  rfl
/-- f(e, ..) -/
theorem so_call (F : FnOk X.prog X.w X.K X.mg X.base CX0 k f fd ps (spD X.K n g)) (hr : Room k X.A) (hm : X.mg x = some (.ref f)) (hk : PySem.W.keepIn X.K (.ref f) = true) (hb : Binds X.K fd ps []) (hps : ps.length = n)
    (ha : SA X (e :: es) ma) (hl : ∀ ρ rs ρ', ma ρ = some (rs, ρ') → rs.length = n) (hg : Gl X x := by rfl) (hdb : (x == ("__debug__" : Str)) = false := by decide) (he : starEach (e :: es) X.env = (false, eval e X.env) :: starEach es X.env := by rfl) (hpl : (backTo pos (starEach es X.env)).any (·.1) = false := by rfl) :
    SO X (.Call (.Name x p) (e :: es) [] pos) (mCl g ma) := PE.imp (pe_call F hr hg hm hk hb .nil pass0 ha hdb he hpl) fun σ H Q h => tCall_of hps F σ H Q hl h
end
end Sem
-- SemF
/-! SemF: the operators and built-ins on data. -/
namespace Sem
open PySem L2 PyProof.Rows

/-! ### arithmetic -/
def mulOk (i j : Int) : Bool := decide (i.natAbs.log2 + j.natAbs.log2 < 100000000)
theorem mulOk_ok {i j : Int} (h : mulOk i j = true) : IntMulOk i j := by
  have h3 := of_decide_eq_true h
  have b : ∀ x : Int, Builtin.Int.intBits x ≤ x.natAbs.log2 + 1 := fun x => by
    unfold Builtin.Int.intBits
    split <;> omega
  have h1 := b i
  have h2 := b j
  have e : bitsLine = 134217728 := by decide
  unfold IntMulOk
  intro z
  rw [Bool.and_eq_true] at z
  have z2 := z.2
  unfold Builtin.Int.intTooBig at z2
  have z3 := of_decide_eq_true z2
  rw [e] at z3
  omega
def divOk (i j : Int) : Bool := decide (j ≠ 0) && !Builtin.divisionGoesByPylong i j
section
variable {X : Cx}
theorem New.q {K : PySem.W.Frag} {F H : Hp} {z : PyData} {v : V} {Q : VK} (s : Same F H) (q : ∀ v F' H', New F H F' H' → Rep K F' z v → Q v H') (r : Rep K F z v) : Q v H := q v F H (New.refl s) r
theorem New.ql {K : PySem.W.Frag} {F H : Hp} {ds : List PyData} {vs : List V} {Q : VK} (s : Same F H) (q : ∀ v F' H', New F H F' H' → Rep K F' (.list ds) v → Q v H') (r : RepL K F ds vs) {p : Addr} (hp : H p = none) : Q (.ref p) (upd H p (.lst vs)) :=
  q _ _ _ (New.laid s hp) (rep_list.mpr ⟨p, vs, rfl, upd_same, RepL.mono (New.laid (o := .lst vs) s hp).f _ _ r⟩)
theorem New.qt {K : PySem.W.Frag} {F H : Hp} {ds : List PyData} {vs : List V} {Q : VK} (s : Same F H) (q : ∀ v F' H', New F H F' H' → Rep K F' (.tuple ds) v → Q v H') (r : RepL K F ds vs) {p : Addr} (hp : H p = none) : Q (.ref p) (upd H p (.tup vs)) :=
  q _ _ _ (New.laid s hp) (rep_tuple.mpr ⟨p, vs, rfl, SqT.of upd_same, RepL.mono (New.laid (o := .tup vs) s hp).f _ _ r⟩)
def gII (c : Int → Int → Bool) (g : Int → Int → Int) : PyData → PyData → Option PyData
  | .int i, .int j => if c i j then some (.int (g i j)) else none
  | _, _ => none
theorem od_II {f : Value → Value → PySem.Sem Value} {c : Int → Int → Bool} {C : Int → Int → Prop} {g : Int → Int → Int} (h : OpR X f (rI C fun i j => .int (g i j))) (hc : ∀ i j, c i j = true → C i j) : OpD X f (gII c g) := .mk h fun d e z hz F H x y s hd he Q q => by
  cases d with
  | int i =>
    cases e with
    | int j =>
      unfold gII at hz
      simp only at hz
      split at hz
      · rename_i hij
        cases hz
        exact ⟨i, j, top_int hd, top_int he, hc i j hij, New.q s q (rep_int.mpr rfl)⟩
      · cases hz
    | _ => cases hz
  | _ => cases hz
def gII0 (g : Int → Int → Int) : PyData → PyData → Option PyData
  | .int i, .int j => some (.int (g i j))
  | _, _ => none
theorem od_II0 {f : Value → Value → PySem.Sem Value} {g : Int → Int → Int} (h : OpR X f (rI0 fun i j => .int (g i j))) : OpD X f (gII0 g) := .mk h fun d e z hz F H x y s hd he Q q => by
  cases d with
  | int i =>
    cases e with
    | int j =>
      cases hz
      exact ⟨i, j, top_int hd, top_int he, New.q s q (rep_int.mpr rfl)⟩
    | _ => cases hz
  | _ => cases hz
def gIB (g : Int → Int → Bool) : PyData → PyData → Option PyData
  | .int i, .int j => some (.bool (g i j))
  | _, _ => none
theorem od_IB {f : Value → Value → PySem.Sem Value} {g : Int → Int → Bool} (h : OpR X f (rI0 fun i j => .bl (g i j))) : OpD X f (gIB g) := .mk h fun d e z hz F H x y s hd he Q q => by
  cases d with
  | int i =>
    cases e with
    | int j =>
      cases hz
      exact ⟨i, j, top_int hd, top_int he, New.q s q (rep_bool.mpr rfl)⟩
    | _ => cases hz
  | _ => cases hz
/-- + -/
def gAdd : PyData → PyData → Option PyData
  | .int i, .int j => some (.int (i + j))
  | .str a, .str b => if small (a.length + b.length) then some (.str (a ++ b)) else none
  | .list a, .list b => if small (a.length + b.length) then some (.list (a ++ b)) else none
  | .tuple a, .tuple b => if small (a.length + b.length) then some (.tuple (a ++ b)) else none
  | _, _ => none
theorem od_add : OpD X (binaryOp .Add) gAdd := .mk (OpR.or op_add (OpR.or op_add_str (OpR.or op_cat op_catA))) fun d e z hz F H x y s hd he Q q => by
  cases d with
  | int i =>
    cases e with
    | int j =>
      cases hz
      exact .inl ⟨i, j, top_int hd, top_int he, New.q s q (rep_int.mpr rfl)⟩
    | _ => cases hz
  | str i =>
    cases e with
    | str j =>
      unfold gAdd at hz
      simp only at hz
      split at hz
      · rename_i hl
        cases hz
        exact .inr (.inl ⟨i, j, top_str hd, top_str he, small_line hl, New.q s q (rep_str.mpr rfl)⟩)
      · cases hz
    | _ => cases hz
  | list a =>
    cases e with
    | list b =>
      unfold gAdd at hz
      simp only at hz
      split at hz
      · rename_i hl
        cases hz
        obtain ⟨p, vs, e1, h1, r1⟩ := hd
        obtain ⟨p2, vs2, e2, h2, r2⟩ := he
        exact .inr (.inr (.inl ⟨p, p2, vs, vs2, e1, e2, h1, h2, by rw [r1.length, r2.length]; exact small_line hl, fun p3 hp => New.ql s q (r1.append r2) hp⟩))
      · cases hz
    | _ => cases hz
  | tuple a =>
    cases e with
    | tuple b =>
      unfold gAdd at hz
      simp only at hz
      split at hz
      · rename_i hl
        cases hz
        obtain ⟨p, vs, e1, h1, r1⟩ := top_tuple hd
        obtain ⟨p2, vs2, e2, h2, r2⟩ := top_tuple he
        refine .inr (.inr (.inr ⟨p, p2, vs, vs2, e1, e2, Same.tup s h1, Same.tup s h2, by rw [r1.length, r2.length]; exact small_line hl, fun z => ?_, fun _ z => ?_, fun _ z p3 hp => New.qt s q (r1.append r2) hp⟩))
        · rw [z] at r1
          have hb : a = [] := by
            have := r1.length
            cases a with
            | nil => rfl
            | cons _ _ => simp at this
          subst hb
          exact New.q s q (rep_tuple.mpr ⟨p2, vs2, rfl, h2, r2⟩)
        · rw [z] at r2
          have hb : b = [] := by
            have := r2.length
            cases b with
            | nil => rfl
            | cons _ _ => simp at this
          subst hb
          rw [List.append_nil] at q
          exact New.q s q (rep_tuple.mpr ⟨p, vs, rfl, h1, r1⟩)
      · cases hz
    | _ => cases hz
  | _ => cases hz
theorem od_sub : OpD X (binaryOp .Sub) (gII0 fun i j => i - j) := od_II0 op_sub
/-- * -/
def gMul : PyData → PyData → Option PyData
  | .int i, .int j => if mulOk i j then some (.int (i * j)) else none
  | .list a, .int k => if decide (-(2 ^ 63) ≤ k) && decide (k < 2 ^ 63) && small (a.length * k.toNat) then some (.list (List.replicate k.toNat a).flatten) else none
  | _, _ => none
theorem op_mulI : OpR X (binaryOp .Mult) (rI (fun i j => mulOk i j = true) fun i j => .int (i * j)) := opI fun _ _ _ _ _ _ _ hc q => mul_int q (mulOk_ok hc)
theorem od_mul : OpD X (binaryOp .Mult) gMul := .mk (OpR.or op_mulI op_rep) fun d e z hz F H x y s hd he Q q => by
  cases d with
  | int i =>
    cases e with
    | int j =>
      unfold gMul at hz
      simp only at hz
      split at hz
      · rename_i hl
        cases hz
        exact .inl ⟨i, j, top_int hd, top_int he, hl, New.q s q (rep_int.mpr rfl)⟩
      · cases hz
    | _ => cases hz
  | list a =>
    cases e with
    | int k =>
      unfold gMul at hz
      simp only at hz
      split at hz
      · rename_i hl
        cases hz
        rw [Bool.and_eq_true, Bool.and_eq_true] at hl
        obtain ⟨p, vs, e1, h1, r1⟩ := hd
        exact .inr ⟨p, k, vs, e1, top_int he, h1, of_decide_eq_true hl.1.1, of_decide_eq_true hl.1.2, by rw [r1.length]; exact small_line hl.2, fun p3 hp => New.ql s q (r1.replicate _) hp⟩
      · cases hz
    | _ => cases hz
  | _ => cases hz
theorem op_fdivA : OpR X (binaryOp .FloorDiv) (rI (fun i j => divOk i j = true) fun i j => .int (i.fdiv j)) := opI fun i j _ _ _ _ _ hc q => by
  unfold divOk at hc
  rw [Bool.and_eq_true] at hc
  exact floordiv_int (of_decide_eq_true hc.1) q (.inl (by simpa using hc.2))
theorem od_fdiv : OpD X (binaryOp .FloorDiv) (gII divOk fun i j => i.fdiv j) := od_II op_fdivA fun _ _ h => h
theorem od_mod : OpD X (binaryOp .Mod) (gII (fun _ j => decide (j ≠ 0)) fun i j => i.fmod j) := od_II op_modN fun _ _ h => of_decide_eq_true h
def powOk (i j : Int) : Bool := decide (0 ≤ j) && decide (j ≤ 1000000) && decide (i.natAbs < 2 ^ 64)
theorem od_pow : OpD X (binaryOp .Pow) (gII powOk fun i j => i ^ j.toNat) := od_II op_pow fun _ _ h => by
  unfold powOk at h
  rw [Bool.and_eq_true, Bool.and_eq_true] at h
  exact ⟨of_decide_eq_true h.1.1, of_decide_eq_true h.1.2, of_decide_eq_true h.2⟩
def gNeg : PyData → Option PyData
  | .int i => some (.int (-i))
  | _ => none
theorem ud_neg : UnD X (unaryOp .USub) gNeg := ⟨_, un_neg, fun d z hz F H x s hd Q q => by
  cases d with
  | int i =>
    cases hz
    exact ⟨i, top_int hd, New.q s q (rep_int.mpr rfl)⟩
  | _ => cases hz⟩

/-! ### comparisons -/
theorem od_lt : OpD X (compareOp .Lt) (gIB fun i j => decide (i < j)) := od_IB op_lt
theorem od_le : OpD X (compareOp .LtE) (gIB fun i j => decide (i ≤ j)) := od_IB op_le
theorem od_gt : OpD X (compareOp .Gt) (gIB fun i j => decide (j < i)) := od_IB op_gt
theorem od_ge : OpD X (compareOp .GtE) (gIB fun i j => decide (j ≤ i)) := od_IB op_ge
def gEq (neg : Bool) : PyData → PyData → Option PyData := fun d e => if SeqAt.shaped d && SeqAt.shaped e then some (.bool (if neg then !PyData.eqv d e else PyData.eqv d e)) else none
theorem od_eq (hu : X.A.units + 64 < cLine) : OpD X (compareOp .Eq) (gEq false) := .mk (op_eqD hu) fun d e z hz F H x y s hd he Q q => by
  unfold gEq at hz
  split at hz
  · rename_i hs
    cases hz
    rw [Bool.and_eq_true] at hs
    exact ⟨d, e, Rep.dp _ _ (SeqAt.canLay_of_shaped hs.1) (Top.rep s hd), Rep.dp _ _ (SeqAt.canLay_of_shaped hs.2) (Top.rep s he), hs.1, hs.2, New.q s q (rep_bool.mpr rfl)⟩
  · cases hz
theorem od_ne (hu : X.A.units + 64 < cLine) : OpD X (compareOp .NotEq) (gEq true) := .mk (op_neD hu) fun d e z hz F H x y s hd he Q q => by
  unfold gEq at hz
  split at hz
  · rename_i hs
    cases hz
    rw [Bool.and_eq_true] at hs
    exact ⟨d, e, Rep.dp _ _ (SeqAt.canLay_of_shaped hs.1) (Top.rep s hd), Rep.dp _ _ (SeqAt.canLay_of_shaped hs.2) (Top.rep s he), hs.1, hs.2, New.q s q (rep_bool.mpr rfl)⟩
  · cases hz
def isNone : PyData → Bool
  | .none => true
  | _ => false
theorem isNone_dec {K : PySem.W.Frag} {F H : Hp} {d : PyData} {x : V} (h : Top K F H d x) : decide (x = .non) = isNone d := by
  cases d with
  | none => rw [top_none h]; rfl
  | bool b => rw [top_bool h]; rfl
  | int b => rw [top_int h]; rfl
  | str b => rw [top_str h]; rfl
  | list b => obtain ⟨a, vs, e, _⟩ := h; rw [e]; rfl
  | tuple b => obtain ⟨a, vs, e, _⟩ := top_tuple h; rw [e]; rfl
  | dict b => obtain ⟨a, vs, e, _⟩ := top_dict h; rw [e]; rfl
/-- is, is not of None and bools -/
def gIs (neg : Bool) : PyData → PyData → Option PyData
  | d, .none => some (.bool (if neg then !isNone d else isNone d))
  | .bool a, .bool b => some (.bool (if neg then !decide (a = b) else decide (a = b)))
  | _, _ => none
theorem od_is : OpD X (compareOp .Is) (gIs false) := .mk (OpR.or op_isN op_isBl) fun d e z hz F H x y s hd he Q q => by
  cases e with
  | none =>
    have hz' : some (PyData.bool (isNone d)) = some z := by cases d <;> exact hz
    cases hz'
    refine .inl ⟨top_none he, ?_⟩
    rw [isNone_dec hd]
    exact New.q s q (rep_bool.mpr rfl)
  | bool b =>
    cases d with
    | bool a =>
      cases hz
      exact .inr ⟨a, b, top_bool hd, top_bool he, New.q s q (rep_bool.mpr rfl)⟩
    | _ => cases hz
  | _ => cases d <;> cases hz
theorem od_isnt : OpD X (compareOp .IsNot) (gIs true) := .mk (OpR.or op_notN op_notBl) fun d e z hz F H x y s hd he Q q => by
  cases e with
  | none =>
    have hz' : some (PyData.bool (!isNone d)) = some z := by cases d <;> exact hz
    cases hz'
    refine .inl ⟨top_none he, ?_⟩
    rw [isNone_dec hd]
    exact New.q s q (rep_bool.mpr rfl)
  | bool b =>
    cases d with
    | bool a =>
      cases hz
      exact .inr ⟨a, b, top_bool hd, top_bool he, New.q s q (rep_bool.mpr rfl)⟩
    | _ => cases hz
  | _ => cases d <;> cases hz
/-- in: one sign in a text, an item in a list -/
def gIn (neg : Bool) : PyData → PyData → Option PyData
  | .str a, .str z => match a.cps.toList with
    | [c] => some (.bool (if neg then !decide (c ∈ z.cps.toList) else decide (c ∈ z.cps.toList)))
    | _ => none
  | d, .list ds => if SeqAt.shaped d && SeqAt.shaped (.list ds) then some (.bool (if neg then !(ds.any fun z => PyData.eqv z d) else (ds.any fun z => PyData.eqv z d))) else none
  | _, _ => none
theorem str_sign {a : Str} {c : Nat} (h : a.cps.toList = [c]) : a = ⟨#[c]⟩ := by
  cases a with
  | mk cps =>
    congr 1
    exact Array.toList_inj.mp h
theorem od_in (hu : X.A.units + 65 < cLine) : OpD X (compareOp .In) (gIn false) := .mk (OpR.or op_in_sign (op_inD hu)) fun d e z hz F H x y s hd he Q q => by
  have lst : ∀ ds, e = .list ds → (if SeqAt.shaped d && SeqAt.shaped (.list ds) then some (PyData.bool (ds.any fun z => PyData.eqv z d)) else none) = some z → rInD X.K x y H Q := fun ds h hz2 => by
    subst h
    clear hz
    split at hz2
    · rename_i hs
      cases hz2
      rw [Bool.and_eq_true] at hs
      exact ⟨d, ds, Rep.dp _ _ (SeqAt.canLay_of_shaped hs.1) (Top.rep s hd), Rep.dp _ _ (SeqAt.canLay_of_shaped hs.2) (Top.rep s he), hs.1, hs.2, New.q s q (rep_bool.mpr rfl)⟩
    · cases hz2
  cases e with
  | str z0 =>
    cases d with
    | str a =>
      unfold gIn at hz
      simp only at hz
      split at hz
      · rename_i c hc
        cases hz
        exact .inl ⟨c, z0, by rw [top_str hd, str_sign hc], top_str he, New.q s q (rep_bool.mpr rfl)⟩
      · cases hz
    | _ => cases hz
  | list ds => exact .inr (lst ds rfl (by cases d <;> exact hz))
  | _ => cases d <;> cases hz
theorem od_notin (hu : X.A.units + 65 < cLine) : OpD X (compareOp .NotIn) (gIn true) := .mk (OpR.or op_notIn_sign (op_notInD hu)) fun d e z hz F H x y s hd he Q q => by
  have lst : ∀ ds, e = .list ds → (if SeqAt.shaped d && SeqAt.shaped (.list ds) then some (PyData.bool (!(ds.any fun z => PyData.eqv z d))) else none) = some z → rNotInD X.K x y H Q := fun ds h hz2 => by
    subst h
    clear hz
    split at hz2
    · rename_i hs
      cases hz2
      rw [Bool.and_eq_true] at hs
      exact ⟨d, ds, Rep.dp _ _ (SeqAt.canLay_of_shaped hs.1) (Top.rep s hd), Rep.dp _ _ (SeqAt.canLay_of_shaped hs.2) (Top.rep s he), hs.1, hs.2, New.q s q (rep_bool.mpr rfl)⟩
    · cases hz2
  cases e with
  | str z0 =>
    cases d with
    | str a =>
      unfold gIn at hz
      simp only at hz
      split at hz
      · rename_i c hc
        cases hz
        exact .inl ⟨c, z0, by rw [top_str hd, str_sign hc], top_str he, New.q s q (rep_bool.mpr rfl)⟩
      · cases hz
    | _ => cases hz
  | list ds => exact .inr (lst ds rfl (by cases d <;> exact hz))
  | _ => cases d <;> cases hz

/-! ### truth -/
def gTru : PyData → Option Bool
  | .none => some false
  | .bool b => some b
  | .int i => some (i != 0)
  | .str x => if small x.length then some ((x.length : Int) != 0) else none
  | .list ds => some (!ds.isEmpty)
  | .tuple ds => some (!ds.isEmpty)
  | .dict kvs => some (!kvs.isEmpty)
def mTru (m : ME) : MT := fun ρ => match m ρ with
  | some (r, ρ1) => match rd ρ1 r with
    | some d => match gTru d with
      | some b => some (b, ρ1)
      | none => none
    | none => none
  | none => none
theorem RepL.isEmpty {K : PySem.W.Frag} {H : Hp} {ds : List PyData} {vs : List V} (h : RepL K H ds vs) : vs.isEmpty = ds.isEmpty := by
  have := h.length
  cases ds <;> cases vs <;> simp_all
theorem RepD.isEmpty {K : PySem.W.Frag} {H : Hp} {ds : List (PyData × PyData)} {vs : List (Key × V)} (h : RepD K H ds vs) : vs.isEmpty = ds.isEmpty := by
  cases ds with
  | nil =>
    rw [RepD] at h
    rw [h]
    rfl
  | cons p r =>
    rw [RepD] at h
    obtain ⟨kv, r', e, _⟩ := h
    rw [e]
    rfl
theorem st_truth {e : Expr} {m : ME} (h : SE X e m) (he : ∀ whole, isTrue e X.env whole = (do let v ← whole; standAt e.pos; holding [v] (truthy v)) := by intro _; rfl) : ST X e (mTru m) := PT.imp (pt_truth h he) fun σ H Q q => by
  obtain ⟨F, ρ, α, b, ρ', w, hm, q⟩ := q
  unfold mTru at hm
  split at hm
  · rename_i r ρ1 h1
    split at hm
    · rename_i d hd
      split at hm
      · rename_i b' hb
        cases hm
        refine ⟨F, ρ, α, r, ρ', w, h1, fun v F1 H1 α1 w1 g1 k1 => ?_⟩
        refine ⟨b, ?_, q F1 H1 α1 w1 g1⟩
        have t := rd_top w1 k1 hd
        cases d with
        | none => rw [top_none t]; cases hb; rfl
        | bool _ => rw [top_bool t]; cases hb; rfl
        | int _ => rw [top_int t]; cases hb; rfl
        | str x =>
          rw [top_str t]
          unfold gTru at hb
          simp only at hb
          split at hb
          · rename_i hl
            cases hb
            exact ⟨small_line hl, rfl⟩
          · cases hb
        | list ds =>
          obtain ⟨a, vs, e1, h2, h3⟩ := t
          cases hb
          rw [e1]
          exact .inl ⟨vs, SqL.of h2, by rw [h3.isEmpty]⟩
        | tuple ds =>
          obtain ⟨a, vs, e1, h2, h3⟩ := top_tuple t
          cases hb
          rw [e1]
          exact .inr (.inl ⟨vs, Same.tup w1.sub h2, by rw [h3.isEmpty]⟩)
        | dict ds =>
          obtain ⟨a, vs, e1, h2, h3⟩ := top_dict t
          cases hb
          rw [e1]
          exact .inr (.inr ⟨vs, w1.sub _ _ h2, by rw [h3.isEmpty]⟩)
      · cases hm
    · cases hm
  · cases hm

/-! ### subscripts -/
def gIx : PyData → PyData → Option PyData
  | .list ds, .int i => atI ds i
  | .tuple ds, .int i => atI ds i
  | .str z, .int i => if small z.length then (atI z.cps.toList i).map fun c => .str ⟨#[c]⟩ else none
  | _, _ => none
theorem atI_rep {K : PySem.W.Frag} {F : Hp} {ds : List PyData} {vs : List V} {i : Int} {d : PyData} (r : RepL K F ds vs) (h : atI ds i = some d) : ∃ v, atI vs i = some v ∧ Rep K F d v := by
  unfold atI at h ⊢
  rw [r.length]
  cases e : ixN ds.length i with
  | none => rw [e] at h; cases h
  | some j =>
    rw [e] at h
    exact r.get h
theorem sv_ix {a b : Expr} {pos : Pos} {ma mb : ME} (ha : SE X a ma) (hb : SE X b mb) (hs : PlainIx b := by exact fun _ _ => rfl) : SV X (.Subscript a b pos) (mOp gIx ma mb) := PE.imp (pe_ix ix_seq ha hb hs) fun σ H Q h => by
  obtain ⟨F, ρ, α, z, ρ', w, hm, q⟩ := h
  obtain ⟨r1, ρ1, r2, d, e', h1, h2, hd, he, hz⟩ := mOp_some hm
  refine ⟨F, ρ, α, r1, ρ1, w, h1, fun x F1 H1 α1 w1 g1 k1 => ?_⟩
  refine ⟨F1, ρ1, α1, r2, ρ', w1, h2, fun y F2 H2 α2 w2 g2 k2 => ?_⟩
  have t1 := rd_top w2 (k1.mono g2.f) hd
  have t2 := rd_top w2 k2 he
  cases d with
  | list ds =>
    cases e' with
    | int i =>
      obtain ⟨p, vs, e1, h3, h4⟩ := t1
      obtain ⟨v, e5, r5⟩ := atI_rep h4 hz
      exact .inl ⟨p, vs, i, v, e1, top_int t2, SqL.of h3, e5, q v F2 H2 α2 w2 (g1.trans g2) r5⟩
    | _ => cases hz
  | tuple ds =>
    cases e' with
    | int i =>
      obtain ⟨p, vs, e1, h3, h4⟩ := top_tuple t1
      obtain ⟨v, e5, r5⟩ := atI_rep h4 hz
      exact .inr (.inl ⟨p, vs, i, v, e1, top_int t2, Same.tup w2.sub h3, e5, q v F2 H2 α2 w2 (g1.trans g2) r5⟩)
    | _ => cases hz
  | str s =>
    cases e' with
    | int i =>
      unfold gIx at hz
      simp only at hz
      split at hz
      · rename_i hl
        cases ec : atI s.cps.toList i with
        | none => rw [ec] at hz; cases hz
        | some c =>
          rw [ec] at hz
          cases hz
          exact .inr (.inr ⟨s, i, c, top_str t1, top_int t2, small_line hl, ec, q _ F2 H2 α2 w2 (g1.trans g2) (rep_str.mpr rfl)⟩)
      · cases hz
    | _ => cases hz
  | _ => cases hz

/-! ### built-ins -/
section
variable {x : Str} {p pos : Pos} {e : Expr} {es : List Expr} {g : List PyData → Option PyData} {ma : MA} {id : String}
theorem sv_callB (hc : CallD X (.builtin id) g) (hm : X.mg x = none) (hv : bootBuiltins x = some (.builtin id)) (ha : SA X (e :: es) ma) (hg : Gl X x := by rfl) (hn : x ≠ "__name__" := by decide) (hdb : (x == ("__debug__" : Str)) = false := by decide)
    (he : starEach (e :: es) X.env = (false, eval e X.env) :: starEach es X.env := by rfl) (hpl : (backTo pos (starEach es X.env)).any (·.1) = false := by rfl) : SV X (.Call (.Name x p) (e :: es) [] pos) (mCall g ma) := by
  obtain ⟨r, h1, h2⟩ := hc
  exact PE.imp (pe_callB h1 hg hm hv ha hn hdb he hpl) (tCB_of h2)
theorem sv_callTy (hc : CallD X (.type id) g) (hm : X.mg x = none) (hv : bootBuiltins x = some (.type id)) (ha : SA X (e :: es) ma) (hg : Gl X x := by rfl) (hn : x ≠ "__name__" := by decide) (hdb : (x == ("__debug__" : Str)) = false := by decide)
    (he : starEach (e :: es) X.env = (false, eval e X.env) :: starEach es X.env := by rfl) (hpl : (backTo pos (starEach es X.env)).any (·.1) = false := by rfl) : SV X (.Call (.Name x p) (e :: es) [] pos) (mCall g ma) := by
  obtain ⟨r, h1, h2⟩ := hc
  exact PE.imp (pe_callTy h1 hg hm hv ha hn hdb he hpl) (tCB_of h2)
end
theorem TopL.one {K : PySem.W.Frag} {F H : Hp} {d : PyData} {vs : List V} (h : TopL K F H [d] vs) : ∃ v, vs = [v] ∧ Top K F H d v := by
  obtain ⟨v, r, rfl, h1, h2⟩ := h
  cases (show r = [] from h2)
  exact ⟨v, rfl, h1⟩
theorem TopL.two {K : PySem.W.Frag} {F H : Hp} {d e : PyData} {vs : List V} (h : TopL K F H [d, e] vs) : ∃ v u, vs = [v, u] ∧ Top K F H d v ∧ Top K F H e u := by
  obtain ⟨v, r, rfl, h1, h2⟩ := h
  obtain ⟨u, rfl, h3⟩ := TopL.one h2
  exact ⟨v, u, rfl, h1, h3⟩
def gAbs : List PyData → Option PyData
  | [.int i] => some (.int (if i < 0 then -i else i))
  | _ => none
theorem cd_abs : CallD X (.builtin "abs") gAbs := ⟨_, call_abs, fun ds z hz F H vs s ht Q q => by
  unfold gAbs at hz
  split at hz
  · rename_i i
    cases hz
    obtain ⟨v, rfl, h1⟩ := ht.one
    exact ⟨i, by rw [top_int h1], New.q s q (rep_int.mpr rfl)⟩
  · cases hz⟩
def gMin : List PyData → Option PyData
  | [.int i, .int j] => some (.int (if j < i then j else i))
  | _ => none
theorem cd_min (hc : X.calm = true) : CallD X (.builtin "min") gMin := ⟨_, call_min2 hc, fun ds z hz F H vs s ht Q q => by
  unfold gMin at hz
  split at hz
  · rename_i i j
    cases hz
    obtain ⟨v, u, rfl, h1, h2⟩ := ht.two
    exact ⟨i, j, by rw [top_int h1, top_int h2], New.q s q (rep_int.mpr rfl)⟩
  · cases hz⟩
/-- int(an int | a bool | a text) -/
def gInt : List PyData → Option PyData
  | [.int i] => some (.int i)
  | [.bool k] => some (.int (if k then 1 else 0))
  | [.str a] => if decide (a.length ≤ 640) then (PySem.intText? a).map .int else none
  | _ => none
theorem cd_int : CallD X (.type "int") gInt := ⟨_, CallR.or call_int1 call_int_str, fun ds z hz F H vs s ht Q q => by
  unfold gInt at hz
  split at hz
  · rename_i i
    cases hz
    obtain ⟨v, rfl, h1⟩ := ht.one
    exact .inl (.inl ⟨i, by rw [top_int h1], New.q s q (rep_int.mpr rfl)⟩)
  · rename_i i
    cases hz
    obtain ⟨v, rfl, h1⟩ := ht.one
    exact .inl (.inr ⟨i, by rw [top_bool h1], New.q s q (rep_int.mpr rfl)⟩)
  · rename_i a
    split at hz
    · rename_i hl
      obtain ⟨v, rfl, h1⟩ := ht.one
      cases e : PySem.intText? a with
      | none => rw [e] at hz; cases hz
      | some n =>
        rw [e] at hz
        cases hz
        exact .inr ⟨a, n, by rw [top_str h1], e, of_decide_eq_true hl, New.q s q (rep_int.mpr rfl)⟩
    · cases hz
  · cases hz⟩
def gStr : List PyData → Option PyData
  | [.int i] => if decide (i.natAbs.log2 < 1920) then some (.str (toString i)) else none
  | _ => none
theorem cd_str : CallD X (.type "str") gStr := ⟨_, call_str_int, fun ds z hz F H vs s ht Q q => by
  unfold gStr at hz
  split at hz
  · rename_i i
    split at hz
    · rename_i hl
      cases hz
      obtain ⟨v, rfl, h1⟩ := ht.one
      exact ⟨i, by rw [top_int h1], of_decide_eq_true hl, New.q s q (rep_str.mpr rfl)⟩
    · cases hz
  · cases hz⟩
def gLen : List PyData → Option PyData
  | [.str x] => if small x.length then some (.int x.length) else none
  | [.list ds] => some (.int ds.length)
  | [.tuple ds] => some (.int ds.length)
  | _ => none
theorem cd_len : CallD X (.builtin "len") gLen := ⟨_, call_len, fun ds z hz F H vs s ht Q q => by
  unfold gLen at hz
  split at hz
  · rename_i i
    split at hz
    · rename_i hl
      cases hz
      obtain ⟨v, rfl, h1⟩ := ht.one
      rw [top_str h1]
      exact ⟨_, i.length, rfl, ⟨small_line hl, rfl⟩, New.q s q (rep_int.mpr rfl)⟩
    · cases hz
  · rename_i es
    cases hz
    obtain ⟨v, rfl, a, ws, e1, h2, h3⟩ := ht.one
    exact ⟨_, es.length, rfl, by rw [e1]; exact .inl ⟨ws, SqL.of h2, h3.length.symm⟩, New.q s q (rep_int.mpr rfl)⟩
  · rename_i es
    cases hz
    obtain ⟨v, rfl, h1⟩ := ht.one
    obtain ⟨a, ws, e1, h2, h3⟩ := top_tuple h1
    exact ⟨_, es.length, rfl, by rw [e1]; exact .inr ⟨ws, Same.tup s h2, h3.length.symm⟩, New.q s q (rep_int.mpr rfl)⟩
  · cases hz⟩
/-- the bools of a list of bools -/
def boolsOf : List PyData → Option (List Bool)
  | [] => some []
  | .bool b :: r => (boolsOf r).map (b :: ·)
  | _ => none
theorem boolsOf_eq : ∀ {ds : List PyData} {bs : List Bool}, boolsOf ds = some bs → ds = bs.map PyData.bool
  | [], bs, h => by cases h; rfl
  | d :: r, bs, h => by
    cases d with
    | bool b =>
      unfold boolsOf at h
      cases e : boolsOf r with
      | none => rw [e] at h; cases h
      | some cs =>
        rw [e] at h
        cases h
        rw [boolsOf_eq e]
        rfl
    | _ => cases h
theorem boolsOf_map : ∀ bs : List Bool, boolsOf (bs.map PyData.bool) = some bs
  | [] => rfl
  | b :: bs => by
    show (boolsOf (bs.map PyData.bool)).map (b :: ·) = _
    rw [boolsOf_map bs]
    rfl
def gAny : List PyData → Option PyData
  | [.list ds] => (boolsOf ds).map fun bs => .bool (bs.any id)
  | _ => none
def gAll : List PyData → Option PyData
  | [.list ds] => (boolsOf ds).map fun bs => .bool (bs.all id)
  | _ => none
theorem cd_any (hc : X.calm = true) : CallD X (.builtin "any") gAny := ⟨_, cr_any hc, fun ds z hz F H vs s ht Q q => by
  unfold gAny at hz
  split at hz
  · rename_i es
    cases e : boolsOf es with
    | none => rw [e] at hz; cases hz
    | some bs =>
      rw [e] at hz
      cases hz
      obtain ⟨v, rfl, a, ws, e1, h2, h3⟩ := ht.one
      rw [boolsOf_eq e] at h3
      exact ⟨a, bs, by rw [e1], by rw [← h3.bools]; exact SqL.of h2, New.q s q (rep_bool.mpr rfl)⟩
  · cases hz⟩
theorem cd_all (hc : X.calm = true) : CallD X (.builtin "all") gAll := ⟨_, cr_all hc, fun ds z hz F H vs s ht Q q => by
  unfold gAll at hz
  split at hz
  · rename_i es
    cases e : boolsOf es with
    | none => rw [e] at hz; cases hz
    | some bs =>
      rw [e] at hz
      cases hz
      obtain ⟨v, rfl, a, ws, e1, h2, h3⟩ := ht.one
      rw [boolsOf_eq e] at h3
      exact ⟨a, bs, by rw [e1], by rw [← h3.bools]; exact SqL.of h2, New.q s q (rep_bool.mpr rfl)⟩
  · cases hz⟩
/-- tuple(a list | a tuple) -/
def gTuple : List PyData → Option PyData
  | [.list ds] => some (.tuple ds)
  | [.tuple ds] => some (.tuple ds)
  | _ => none
theorem cd_tuple : CallD X (.type "tuple") gTuple := ⟨_, call_tuple_of, fun ds z hz F H vs s ht Q q => by
  unfold gTuple at hz
  split at hz
  · rename_i es
    cases hz
    obtain ⟨v, rfl, a, ws, e1, h2, h3⟩ := ht.one
    exact ⟨a, ws, by rw [e1], .inl ⟨SqL.of h2, fun l hl => New.qt s q h3 hl⟩⟩
  · rename_i es
    cases hz
    obtain ⟨v, rfl, h1⟩ := ht.one
    obtain ⟨a, ws, e1, h2, h3⟩ := top_tuple h1
    exact ⟨a, ws, by rw [e1], .inr ⟨Same.tup s h2, New.q s q (rep_tuple.mpr ⟨a, ws, rfl, h2, h3⟩)⟩⟩
  · cases hz⟩
/-- isinstance(x, T), T a built-in class -/
def tyOf : PyData → String
  | .none => "NoneType"
  | .bool _ => "bool"
  | .int _ => "int"
  | .str _ => "str"
  | .list _ => "list"
  | .tuple _ => "tuple"
  | .dict _ => "dict"
def isTy (T : String) (d : PyData) : Option Bool := kitB (tyOf d) T
theorem top_ty {K : PySem.W.Frag} {F H : Hp} {d : PyData} {x : V} (s : Same F H) (h : Top K F H d x) : TyX K H x (.type (tyOf d)) := by
  cases d with
  | none => rw [top_none h]; exact .base .non
  | bool b => rw [top_bool h]; exact .base (.bl b)
  | int b => rw [top_int h]; exact .base (.int b)
  | str b => rw [top_str h]; exact .base (.str b)
  | list b =>
    obtain ⟨a, vs, e, h2, _⟩ := h
    rw [e]
    exact .base (.lst h2)
  | tuple b =>
    obtain ⟨a, vs, e, h2, _⟩ := top_tuple h
    rw [e]
    rcases Same.tup s h2 with (h2 | ⟨o, h2⟩) | ⟨o, its, n, h2, h3, _⟩
    · exact .base (.tup h2)
    · exact .fTuple h2
    · exact .kTuple h2 h3
  | dict b =>
    obtain ⟨a, vs, e, h2, _⟩ := top_dict h
    rw [e]
    exact .base (.dK (s _ _ h2))
def mIsi (T : String) (m : ME) : MV := fun ρ => match m ρ with
  | some (r, ρ1) => match rd ρ1 r with
    | some d => match isTy T d with
      | some b => some (.bool b, ρ1)
      | none => none
    | none => none
  | none => none
theorem sv_isi {e : Expr} {m : ME} {x : Str} {p p2 pos : Pos} (T : String) (he : SE X e m) (hm : X.mg "isinstance" = none) (hm2 : X.mg x = none) (hv2 : bootBuiltins x = some (.type T)) (hg : Gl X "isinstance" := by rfl) (hg2 : Gl X x := by rfl)
    (hv : bootBuiltins "isinstance" = some (.builtin "isinstance") := by decide +kernel) (hn2 : x ≠ "__name__" := by decide) (hd2 : (x == ("__debug__" : Str)) = false := by decide)
    (hs : starEach [e, .Name x p2] X.env = (false, eval e X.env) :: starEach [.Name x p2] X.env := by rfl) (hs2 : starEach [.Name x p2] X.env = (false, eval (.Name x p2) X.env) :: starEach [] X.env := by rfl)
    (hpl : (backTo pos (starEach [.Name x p2] X.env)).any (·.1) = false := by rfl) : SV X (.Call (.Name "isinstance" p) [e, .Name x p2] [] pos) (mIsi T m) :=
  PE.imp (pe_callB call_isi hg hm hv (pa_cons he (pa_cons (pe_bltn (v := .ty T) hg2 hm2 hv2 rfl hn2 hd2) pa_nil hs2) hs) (by decide) (by decide) hs hpl) fun σ H Q h => by
    obtain ⟨F, ρ, α, z, ρ', w, hm, q⟩ := h
    unfold mIsi at hm
    split at hm
    · rename_i r ρ1 h1
      split at hm
      · rename_i d hd
        split at hm
        · rename_i b hb
          cases hm
          refine ⟨F, ρ, α, r, ρ', w, h1, fun v F1 H1 α1 w1 g1 k1 => ?_⟩
          exact ⟨v, .ty T, .type (tyOf d), .type T, b, rfl, .ty T, top_ty w1.sub (rd_top w1 k1 hd), kit_ty hb, q _ F1 H1 α1 w1 g1 (rep_bool.mpr rfl)⟩
        · cases hm
      · cases hm
    · cases hm

/-! ### slices -/
def mPart (m : MV) : DEnv → Option (Option Int × DEnv) := fun ρ => match m ρ with
  | some (.int i, ρ1) => some (some i, ρ1)
  | _ => none
def mNoPart : DEnv → Option (Option Int × DEnv) := fun ρ => some (none, ρ)
def tP (K : PySem.W.Frag) (m : DEnv → Option (Option Int × DEnv)) : TO := fun σ H Q => ∃ F ρ α o ρ', Wd K F H ρ σ α ∧ m ρ = some (o, ρ') ∧ ∀ F' H' α', Wd K F' H' ρ' σ α' → Gr F H α F' H' α' → Q o H'
abbrev SP (X : Cx) (e : Option Expr) (m : DEnv → Option (Option Int × DEnv)) : Prop := PO X e (tP X.K m)
theorem PO.imp {e : Option Expr} {t t' : TO} (h : PO X e t) (i : ∀ σ H Q, t' σ H Q → t σ H Q) : PO X e t' := ⟨fun pins s σ H Q I q => h.run pins s σ H Q I (i σ H Q q)⟩
theorem sp_none : SP X none mNoPart := PO.imp po_none fun σ H Q h => by
  obtain ⟨F, ρ, α, o, ρ', w, hm, q⟩ := h
  cases hm
  exact q F H α w Gr.refl
theorem sp_some {e : Expr} {m : MV} (h : SV X e m) : SP X (some e) (mPart m) := PO.imp (po_some h) fun σ H Q h => by
  obtain ⟨F, ρ, α, o, ρ', w, hm, q⟩ := h
  unfold mPart at hm
  split at hm
  · rename_i i ρ1 h1
    cases hm
    exact ⟨F, ρ, α, _, ρ', w, h1, fun v F1 H1 α1 w1 g1 r1 => ⟨i, rep_int.mp r1, q F1 H1 α1 w1 g1⟩⟩
  · cases hm
def cutD (xs : List PyData) (lo hi : Option Int) : List PyData := (xs.drop (HT.sIx xs.length 0 lo)).take (HT.sIx xs.length xs.length hi - HT.sIx xs.length 0 lo)
theorem RepL.cut {K : PySem.W.Frag} {F : Hp} {ds : List PyData} {vs : List V} (r : RepL K F ds vs) (lo hi : Option Int) : RepL K F (cutD ds lo hi) (cutV vs lo hi) := by
  unfold cutD cutV
  rw [r.length]
  exact (r.drop _).take _
def gSl (d : PyData) (lo hi : Option Int) : Option PyData := match d with
  | .list ds => some (.list (cutD ds lo hi))
  | .tuple ds => if HT.sIx ds.length 0 lo = 0 ∧ HT.sIx ds.length ds.length hi = ds.length then none else some (.tuple (cutD ds lo hi))
  | .str z => if small z.length then some (.str (cutS z lo hi)) else none
  | _ => none
def mSl (m : ME) (ml mh : DEnv → Option (Option Int × DEnv)) : MV := fun ρ => match m ρ with
  | some (r, ρ1) => match ml ρ1 with
    | some (lo, ρ2) => match mh ρ2 with
      | some (hi, ρ3) => match rd ρ3 r with
        | some d => match gSl d lo hi with
          | some z => some (z, ρ3)
          | none => none
        | none => none
      | none => none
    | none => none
  | none => none
theorem sv_slice {e : Expr} {lo hi : Option Expr} {p2 pos : Pos} {m : ME} {ml mh : DEnv → Option (Option Int × DEnv)} (he : SE X e m) (hl : SP X lo ml) (hh : SP X hi mh) : SV X (.Subscript e (.Slice lo hi none p2) pos) (mSl m ml mh) :=
  PE.imp (pe_slice (SlR.or sl_list (SlR.or sl_tup sl_str)) he hl hh) fun σ H Q h => by
    obtain ⟨F, ρ, α, z, ρ', w, hm, q⟩ := h
    unfold mSl at hm
    split at hm
    · rename_i r ρ1 h1
      split at hm
      · rename_i l ρ2 h2
        split at hm
        · rename_i u ρ3 h3
          split at hm
          · rename_i d hd
            split at hm
            · rename_i z' hz
              cases hm
              refine ⟨F, ρ, α, r, ρ1, w, h1, fun v F1 H1 α1 w1 g1 k1 => ?_⟩
              refine ⟨F1, ρ1, α1, l, ρ2, w1, h2, fun F2 H2 α2 w2 g2 => ?_⟩
              refine ⟨F2, ρ2, α2, u, ρ', w2, h3, fun F3 H3 α3 w3 g3 => ?_⟩
              have t := rd_top w3 ((k1.mono g2.f).mono g3.f) hd
              have qq : ∀ v F' H', New F3 H3 F' H' → Rep X.K F' z v → Q v H' := fun v F' H' n rp => q v F' H' α3 (w3.new n) (((g1.trans g2).trans g3).trans n.gr) rp
              cases d with
              | list ds =>
                cases hz
                obtain ⟨a, vs, e1, h4, h5⟩ := t
                exact .inl ⟨a, vs, e1, SqL.of h4, fun p hp => New.ql w3.sub qq (h5.cut l u) hp⟩
              | tuple ds =>
                unfold gSl at hz
                simp only at hz
                split at hz
                · cases hz
                · rename_i hne
                  cases hz
                  obtain ⟨a, vs, e1, h4, h5⟩ := top_tuple t
                  exact .inr (.inl ⟨a, vs, e1, Same.tup w3.sub h4, by rw [h5.length]; exact hne, fun p hp => New.qt w3.sub qq (h5.cut l u) hp⟩)
              | str s =>
                unfold gSl at hz
                simp only at hz
                split at hz
                · rename_i hl
                  cases hz
                  exact .inr (.inr ⟨s, top_str t, small_line hl, New.q w3.sub qq (rep_str.mpr rfl)⟩)
                · cases hz
              | _ => cases hz
            · cases hm
          · cases hm
        · cases hm
      · cases hm
    · cases hm

/-! ### what is never reached -/
def mNoV : MV := fun _ => none
theorem sv_never {e : Expr} (h : PE X e (fun _ _ _ => False)) : SV X e mNoV := PE.imp h fun σ H Q h => by
  obtain ⟨F, ρ, α, o, ρ', w, hm, q⟩ := h
  cases hm
theorem pe_never {e : Expr} : PE X e (fun _ _ _ => False) := ⟨fun _ _ _ _ _ _ h => h.elim⟩

/-! ### a text walked sign by sign -/
def signsOf (z : Str) : List PyData := z.cps.toList.map fun c => .str ⟨#[c]⟩
end
end Sem
-- SemG
/-! SemG: defs and constants of the module by name; texts walked and split; the empty dict; the law's end. -/
namespace Sem
open PySem L2 PyProof.Rows

/-! ### defs and constants by name -/
structure DefOk (P : Program) (w : World) (K : PySem.W.Frag) (mg : Str → Option Value) (base : Heap) (x : Str) (k : Nat) (ps : List Str) (m : DEnv → Option (T × DEnv)) : Prop where
  ex : ∃ f fd, FnOk P w K mg base CX0 k f fd ps (spD K ps.length m) ∧ mg x = some (.ref f) ∧ PySem.W.keepIn K (.ref f) = true ∧ Binds K fd ps []
structure ConstOk (K : PySem.W.Frag) (mg : Str → Option Value) (x : Str) (d : PyData) : Prop where
  ex : ∃ v u, (∀ F, Rep K F d v) ∧ mg x = some u ∧ RelV v u
theorem ConstOk.int {K : PySem.W.Frag} {mg : Str → Option Value} {x : Str} {i : Int} {t : Tok} (h : mg x = some (.int i t)) : ConstOk K mg x (.int i) := ⟨.int i, _, fun _ => rep_int.mpr rfl, h, ⟨t, rfl⟩⟩
theorem ConstOk.str {K : PySem.W.Frag} {mg : Str → Option Value} {x : Str} {i : Str} {t : Tok} (h : mg x = some (.str i t)) : ConstOk K mg x (.str i) := ⟨.str i, _, fun _ => rep_str.mpr rfl, h, ⟨t, rfl⟩⟩
theorem hu65 {A : Around} {k : Nat} (hr : Room k A) : A.units + 65 < cLine := by have := hr.un; omega
section
variable {X : Cx} {k : Nat} {ps : List Str} {x : Str} {p pos : Pos} {e o : Expr} {es : List Expr} {m : DEnv → Option (T × DEnv)} {ma : MA}
theorem sv_const {d : PyData} (h : ConstOk X.K X.mg x d) (hg : Gl X x := by rfl) (hd : (x == ("__debug__" : Str)) = false := by decide) : SV X (.Name x pos) (mC d) := by
  obtain ⟨v, u, h1, h2, h3⟩ := h.ex
  exact sv_glob h1 h2 h3 hg hd
theorem so_callD (D : DefOk X.prog X.w X.K X.mg X.base x k ps m) (hr : Room k X.A) (ha : SA X (e :: es) ma) (hl : ∀ ρ rs ρ', ma ρ = some (rs, ρ') → rs.length = ps.length) (hg : Gl X x := by rfl) (hdb : (x == ("__debug__" : Str)) = false := by decide)
    (he : starEach (e :: es) X.env = (false, eval e X.env) :: starEach es X.env := by rfl) (hpl : (backTo pos (starEach es X.env)).any (·.1) = false := by rfl) : SO X (.Call (.Name x p) (e :: es) [] pos) (mCl m ma) := by
  obtain ⟨f, fd, h1, h2, h3, h4⟩ := D.ex
  exact so_call h1 hr h2 h3 h4 rfl ha hl hg hdb he hpl

/-! ### texts -/
theorem jok_str {K : PySem.W.Frag} {F : Hp} {z : Str} : JOk K (Its z) F (signsOf z) := fun F' H' s1 s2 i => by
  have hl : (signsOf z).length = z.cps.size := by unfold signsOf; rw [List.length_map, Array.length_toList]
  refine ⟨fun d hd => ?_, fun h => by rw [hl] at h; exact h⟩
  have hi : i < z.cps.size := by
    have := (List.getElem?_eq_some_iff.mp hd).1
    rw [hl] at this
    exact this
  refine ⟨hi, fun x H2 y => ?_⟩
  obtain ⟨rfl, c, hc, rfl⟩ := y
  refine ⟨F', New.refl s2, ?_⟩
  unfold signsOf at hd
  rw [List.getElem?_map, Array.getElem?_toList, hc] at hd
  cases hd
  exact rep_str.mpr rfl
def mStrI (m : MV) : ML := fun ρ => match m ρ with
  | some (.str z, ρ1) => some (signsOf z, ρ1)
  | _ => none
theorem si_str {tg : Expr} {m : MV} (h : SV X e m) : SI X tg e (mStrI m) := PI.imp (pi_str h) fun σ H W q => by
  obtain ⟨F, ρ, α, ds, ρ', w, hm, q⟩ := q
  unfold mStrI at hm
  split at hm
  · rename_i z ρ1 h1
    cases hm
    exact ⟨F, ρ, α, _, ρ', w, h1, fun v F1 H1 α1 w1 g1 r1 => ⟨z, rep_str.mp r1, q _ F1 H1 α1 w1 g1 jok_str⟩⟩
  · cases hm
/-- a method of a text by values -/
def MtD (X : Cx) (id : String) (g : List PyData → Option PyData) : Prop := ∃ r : V → List V → Hp → VK → Prop, MtR X id r ∧ ∀ a ds z, g (.str a :: ds) = some z → ∀ F H vs, Same F H → TopL X.K F H ds vs →
  ∀ Q : VK, (∀ v F' H', New F H F' H' → Rep X.K F' z v → Q v H') → r (.str a) vs H Q
def mMS (g : List PyData → Option PyData) (mo : ME) (ma : MA) : MV := fun ρ => match mo ρ with
  | some (.dat (.str a), ρ1) => match ma ρ1 with
    | some (rs, ρ2) => match rdL ρ2 rs with
      | some ds => match g (.str a :: ds) with
        | some z => some (z, ρ2)
        | none => none
      | none => none
    | none => none
  | _ => none
theorem tMS_of {id : String} {g : List PyData → Option PyData} (hm : MtD X id g) : ∃ r : V → List V → Hp → VK → Prop, MtR X id r ∧ ∀ (mo : ME) (ma : MA) σ H Q, tV X.K (mMS g mo ma) σ H Q → tBM X.K "str" r (tE X.K mo) (tA X.K ma) σ H Q := by
  obtain ⟨r, hr, hk⟩ := hm
  refine ⟨r, hr, fun mo ma σ H Q h => ?_⟩
  obtain ⟨F, ρ, α, z, ρ', w, hm, q⟩ := h
  unfold mMS at hm
  split at hm
  · rename_i a ρ1 e1
    split at hm
    · rename_i rs ρ2 e2
      split at hm
      · rename_i ds e3
        split at hm
        · rename_i z' e4
          cases hm
          refine ⟨F, ρ, α, _, ρ1, w, e1, fun ov F1 H1 α1 w1 g1 r1 => ?_⟩
          have hov : ov = .str a := (rep_str (K := X.K) (H := F1)).mp r1
          subst hov
          refine ⟨rfl, F1, ρ1, α1, rs, ρ', w1, e2, fun vs F2 H2 α2 w2 g2 r2 => ?_⟩
          refine hk a ds z e4 F2 H2 vs w2.sub (rdL_top w2 r2 e3) Q fun v F3 H3 n rp => ?_
          exact q v F3 H3 α2 (w2.new n) ((g1.trans g2).trans n.gr) rp
        · cases hm
      · cases hm
    · cases hm
  · cases hm
theorem sv_mtS {id : String} {name : Str} {g : List PyData → Option PyData} {mo : ME} {ma : MA} {apos : Pos} (hm : MtD X id g) (slot : Slot "str" name id) (hty : typeOf (.builtin id) = pure (.type "method_descriptor"))
    (ho : SE X o mo) (ha : SA X (e :: es) ma)
    (hbase : attributeBase o name X.env (eval o X.env) = eval o X.env := by rfl)
    (hfew : ((backTo pos (starEach (e :: es) X.env)).all (fun x => !x.1) && (backToKw pos (keywordEach [] X.env)).all (fun x => x.1.isSome)
      && decide ((e :: es).length + ([] : List Keyword).length + (if ([] : List Keyword).isEmpty then 0 else 1) < 30)) = true := by rfl)
    (hline : (apos.endLine == pos.line) = true := by rfl) (hs : starEach (e :: es) X.env = (false, eval e X.env) :: starEach es X.env := by rfl) (hplain : (backTo pos (starEach es X.env)).any (·.1) = false := by rfl) :
    SV X (.Call (.Attribute o name apos) (e :: es) [] pos) (mMS g mo ma) := by
  obtain ⟨r, hr, hk⟩ := tMS_of hm
  exact PE.imp (pe_bm PySem.F.plainAttrs_str slot hty hr ho ha hbase hfew hline hs hplain) (hk mo ma)
theorem RepL.of_strs {K : PySem.W.Frag} {F : Hp} : ∀ {ys : List Str}, RepL K F (ys.map PyData.str) (ys.map V.str)
  | [] => repL_nil.mpr rfl
  | y :: ys => repL_cons.mpr ⟨.str y, ys.map V.str, rfl, rep_str.mpr rfl, RepL.of_strs⟩
def gSplit : List PyData → Option PyData
  | [.str a, .str b] => if !(b.length == 0) && small (a.length + 2) then some (.list ((Txt.split a b).map .str)) else none
  | _ => none
theorem md_split : MtD X "str.split" gSplit := ⟨_, mt_split, fun a ds z hz F H vs s ht Q q => by
  unfold gSplit at hz
  split at hz
  · rename_i a' b' hh
    cases hh
    split at hz
    · rename_i hl
      cases hz
      rw [Bool.and_eq_true] at hl
      obtain ⟨v, rfl, h1⟩ := ht.one
      exact ⟨a, b', rfl, by rw [top_str h1], by simpa using hl.1, small_line hl.2, fun p hp => New.ql s q RepL.of_strs hp⟩
    · cases hz
  · cases hz⟩

/-! ### {} -/
def mDict0 : MV := fun ρ => some (.dict [], ρ)
theorem sv_dict0 : SV X (.Dict [] [] pos) mDict0 := PE.imp pe_dnewK fun σ H Q h => by
  obtain ⟨F, ρ, α, z, ρ', w, hm, q⟩ := h
  cases hm
  intro p hp
  have n := New.laid (o := .dK []) w.sub hp
  exact q (.ref p) _ _ α (w.new n) n.gr (rep_dict.mpr ⟨p, [], rfl, upd_same, by rw [RepD]⟩)
end
end Sem
-- SemH
/-! SemH: reading a mirror: wp m ρ Q. -/
namespace Sem
open PySem L2 PyProof.Rows

def optP {α : Type} (o : Option α) (Q : α → Prop) : Prop := match o with
  | some x => Q x
  | none => False
def wp {β : Type} (m : DEnv → Option (β × DEnv)) (ρ : DEnv) (Q : β → DEnv → Prop) : Prop := match m ρ with
  | some (r, ρ') => Q r ρ'
  | none => False
theorem optP_some {α : Type} {x : α} {Q : α → Prop} : optP (some x) Q = Q x := rfl
theorem optP_none {α : Type} {Q : α → Prop} : optP none Q = False := rfl
theorem optP_ite {α : Type} {c : Prop} [Decidable c] {x : α} {Q : α → Prop} : optP (if c then some x else none) Q = (c ∧ Q x) := by
  by_cases h : c
  · rw [if_pos h]; exact propext ⟨fun q => ⟨h, q⟩, fun q => q.2⟩
  · rw [if_neg h]; exact propext ⟨fun q => q.elim, fun q => h q.1⟩
theorem optP_map {α β : Type} {f : α → β} {o : Option α} {Q : β → Prop} : optP (o.map f) Q = optP o fun x => Q (f x) := by cases o <;> rfl
theorem wp_eq {β : Type} {m : DEnv → Option (β × DEnv)} {ρ ρ' : DEnv} {r : β} {Q : β → DEnv → Prop} (h : m ρ = some (r, ρ')) : wp m ρ Q = Q r ρ' := by unfold wp; rw [h]
theorem of_wp {β : Type} {m : DEnv → Option (β × DEnv)} {ρ ρ' : DEnv} {r : β} (h : wp m ρ fun r' ρ2 => r' = r ∧ ρ2 = ρ') : m ρ = some (r, ρ') := by
  unfold wp at h
  split at h
  · rename_i r2 ρ2 e
    obtain ⟨rfl, rfl⟩ := h
    exact e
  · exact h.elim
theorem wp_mono {β : Type} {m : DEnv → Option (β × DEnv)} {ρ : DEnv} {Q Q' : β → DEnv → Prop} (h : wp m ρ Q) (i : ∀ r ρ', Q r ρ' → Q' r ρ') : wp m ρ Q' := by
  unfold wp at h ⊢
  split at h
  · exact i _ _ h
  · exact h.elim
section
variable {ρ : DEnv} {β : Type}
/-- the tactic for one of these: by cases -/
theorem wp_var {i : Nat} {Q : R → DEnv → Prop} : wp (mVar i) ρ Q = match ρ[i]? with
    | some (some (.dat d)) => Q (.dat d) ρ
    | some (some (.lst _)) => Q (.loc i) ρ
    | some (some (.scr _ _)) => Q (.loc i) ρ
    | _ => False := by
  unfold wp mVar
  cases ρ[i]? with
  | none => rfl
  | some o => cases o with
    | none => rfl
    | some t => cases t <;> rfl
theorem wp_C {d : PyData} {Q : PyData → DEnv → Prop} : wp (mC d) ρ Q = Q d ρ := rfl
theorem wp_D {m : MV} {Q : R → DEnv → Prop} : wp (mD m) ρ Q = wp m ρ fun d ρ1 => Q (.dat d) ρ1 := by
  unfold wp mD
  cases m ρ <;> rfl
theorem wp_Set {m : ME} {Q : PyData → DEnv → Prop} : wp (mSet m) ρ Q = wp m ρ fun r ρ1 => match r with
    | .dat d => Q d ρ1
    | .loc i => match ρ1[i]? with
      | some (some (.lst ds)) => Q (.list ds) (ρ1.set i (some (.dat (.list ds))))
      | _ => False := by
  unfold wp mSet
  cases m ρ with
  | none => rfl
  | some x =>
    obtain ⟨r, ρ1⟩ := x
    cases r with
    | dat d => rfl
    | loc i =>
      simp only
      cases ρ1[i]? with
      | none => rfl
      | some o => cases o with
        | none => rfl
        | some t => cases t <;> rfl
theorem wp_Fr {m : MO} {Q : PyData → DEnv → Prop} : wp (mFr m) ρ Q = wp m ρ fun t ρ1 => optP (frT t) fun d => Q d ρ1 := by
  unfold wp mFr
  cases m ρ with
  | none => rfl
  | some x =>
    obtain ⟨t, ρ1⟩ := x
    cases t <;> rfl
theorem wp_O {m : MV} {Q : T → DEnv → Prop} : wp (mO m) ρ Q = wp m ρ fun d ρ1 => Q (.dat d) ρ1 := by
  unfold wp mO
  cases m ρ <;> rfl
theorem wp_Op {g : PyData → PyData → Option PyData} {ma mb : ME} {Q : PyData → DEnv → Prop} : wp (mOp g ma mb) ρ Q = wp ma ρ fun r1 ρ1 => wp mb ρ1 fun r2 ρ2 => optP (rd ρ2 r1) fun d => optP (rd ρ2 r2) fun e => optP (g d e) fun z => Q z ρ2 := by
  unfold wp mOp optP
  cases ma ρ with
  | none => rfl
  | some x =>
    obtain ⟨r1, ρ1⟩ := x
    simp only
    cases mb ρ1 with
    | none => rfl
    | some y =>
      obtain ⟨r2, ρ2⟩ := y
      simp only
      cases rd ρ2 r1 with
      | none => rfl
      | some d =>
        cases rd ρ2 r2 with
        | none => rfl
        | some e =>
          simp only
          cases g d e <;> rfl
theorem wp_TV {m : MV} {Q : Bool → DEnv → Prop} : wp (mTV m) ρ Q = wp m ρ fun d ρ1 => match d with
    | .bool b => Q b ρ1
    | _ => False := by
  unfold wp mTV
  cases m ρ with
  | none => rfl
  | some x =>
    obtain ⟨d, ρ1⟩ := x
    cases d <;> rfl
theorem wp_Chain {g g' : PyData → PyData → Option PyData} {ma mb mc : ME} {Q : PyData → DEnv → Prop} : wp (mChain g g' ma mb mc) ρ Q = wp ma ρ fun r1 ρ1 => wp mb ρ1 fun r2 ρ2 => optP (rd ρ2 r1) fun d => optP (rd ρ2 r2) fun e => optP (g d e) fun z => match z with
    | .bool true => wp mc ρ2 fun r3 ρ3 => optP (rd ρ3 r2) fun e' => optP (rd ρ3 r3) fun c => optP (g' e' c) fun z => Q z ρ3
    | .bool false => Q (.bool false) ρ2
    | _ => False := by
  unfold wp mChain optP
  cases ma ρ with
  | none => rfl
  | some x =>
    obtain ⟨r1, ρ1⟩ := x
    simp only
    cases mb ρ1 with
    | none => rfl
    | some y =>
      obtain ⟨r2, ρ2⟩ := y
      simp only
      cases rd ρ2 r1 with
      | none => rfl
      | some d =>
        cases rd ρ2 r2 with
        | none => rfl
        | some e =>
          simp only
          cases g d e with
          | none => rfl
          | some z =>
            cases z with
            | bool b =>
              cases b with
              | false => rfl
              | true =>
                simp only
                cases mc ρ2 with
                | none => rfl
                | some w =>
                  obtain ⟨r3, ρ3⟩ := w
                  simp only
                  cases rd ρ3 r2 with
                  | none => rfl
                  | some e' =>
                    cases rd ρ3 r3 with
                    | none => rfl
                    | some c =>
                      simp only
                      cases g' e' c <;> rfl
            | _ => rfl
theorem wp_Un {g : PyData → Option PyData} {ma : ME} {Q : PyData → DEnv → Prop} : wp (mUn g ma) ρ Q = wp ma ρ fun r1 ρ1 => optP (rd ρ1 r1) fun d => optP (g d) fun z => Q z ρ1 := by
  unfold wp mUn optP
  cases ma ρ with
  | none => rfl
  | some x =>
    obtain ⟨r1, ρ1⟩ := x
    simp only
    cases rd ρ1 r1 with
    | none => rfl
    | some d =>
      simp only
      cases g d <;> rfl
theorem wp_AndT {ma mb : MT} {Q : Bool → DEnv → Prop} : wp (mAndT ma mb) ρ Q = wp ma ρ fun b ρ1 => match b with
    | true => wp mb ρ1 Q
    | false => Q false ρ1 := by
  unfold wp mAndT
  cases ma ρ with
  | none => rfl
  | some x => obtain ⟨b, ρ1⟩ := x; cases b <;> rfl
theorem wp_OrT {ma mb : MT} {Q : Bool → DEnv → Prop} : wp (mOrT ma mb) ρ Q = wp ma ρ fun b ρ1 => match b with
    | true => Q true ρ1
    | false => wp mb ρ1 Q := by
  unfold wp mOrT
  cases ma ρ with
  | none => rfl
  | some x => obtain ⟨b, ρ1⟩ := x; cases b <;> rfl
theorem wp_NotT {ma : MT} {Q : Bool → DEnv → Prop} : wp (mNotT ma) ρ Q = wp ma ρ fun b ρ1 => Q (!b) ρ1 := by
  unfold wp mNotT
  cases ma ρ <;> rfl
theorem wp_AndV {ma mb : MV} {Q : PyData → DEnv → Prop} : wp (mAndV ma mb) ρ Q = wp ma ρ fun d ρ1 => match d with
    | .bool true => wp mb ρ1 Q
    | .bool false => Q (.bool false) ρ1
    | _ => False := by
  unfold wp mAndV
  cases ma ρ with
  | none => rfl
  | some x =>
    obtain ⟨d, ρ1⟩ := x
    cases d with
    | bool b => cases b <;> rfl
    | _ => rfl
theorem wp_OrV {ma mb : MV} {Q : PyData → DEnv → Prop} : wp (mOrV ma mb) ρ Q = wp ma ρ fun d ρ1 => match d with
    | .bool true => Q (.bool true) ρ1
    | .bool false => wp mb ρ1 Q
    | _ => False := by
  unfold wp mOrV
  cases ma ρ with
  | none => rfl
  | some x =>
    obtain ⟨d, ρ1⟩ := x
    cases d with
    | bool b => cases b <;> rfl
    | _ => rfl
theorem wp_NotV {ma : MV} {Q : PyData → DEnv → Prop} : wp (mNotV ma) ρ Q = wp ma ρ fun d ρ1 => match d with
    | .bool b => Q (.bool (!b)) ρ1
    | _ => False := by
  unfold wp mNotV
  cases ma ρ with
  | none => rfl
  | some x => obtain ⟨d, ρ1⟩ := x; cases d <;> rfl
theorem wp_If {mt : MT} {ma mb : DEnv → Option (β × DEnv)} {Q : β → DEnv → Prop} : wp (mIf mt ma mb) ρ Q = wp mt ρ fun b ρ1 => match b with
    | true => wp ma ρ1 Q
    | false => wp mb ρ1 Q := by
  unfold wp mIf
  cases mt ρ with
  | none => rfl
  | some x => obtain ⟨b, ρ1⟩ := x; cases b <;> rfl
theorem wp_A0 {Q : List R → DEnv → Prop} : wp mA0 ρ Q = Q [] ρ := rfl
theorem wp_A1 {m : ME} {ma : MA} {Q : List R → DEnv → Prop} : wp (mA1 m ma) ρ Q = wp m ρ fun r ρ1 => wp ma ρ1 fun rs ρ2 => Q (r :: rs) ρ2 := by
  unfold wp mA1
  cases m ρ with
  | none => rfl
  | some x =>
    obtain ⟨r, ρ1⟩ := x
    simp only
    cases ma ρ1 <;> rfl
theorem wp_L0 {Q : List PyData → DEnv → Prop} : wp mL0 ρ Q = Q [] ρ := rfl
theorem wp_L1 {m : MV} {ma : ML} {Q : List PyData → DEnv → Prop} : wp (mL1 m ma) ρ Q = wp m ρ fun r ρ1 => wp ma ρ1 fun rs ρ2 => Q (r :: rs) ρ2 := by
  unfold wp mL1
  cases m ρ with
  | none => rfl
  | some x =>
    obtain ⟨r, ρ1⟩ := x
    simp only
    cases ma ρ1 <;> rfl
theorem wp_Tup {ma : ML} {Q : PyData → DEnv → Prop} : wp (mTup ma) ρ Q = wp ma ρ fun ds ρ1 => small ds.length = true ∧ Q (.tuple ds) ρ1 := by
  unfold wp mTup
  cases ma ρ with
  | none => rfl
  | some x =>
    obtain ⟨ds, ρ1⟩ := x
    simp only
    by_cases h : small ds.length = true
    · rw [if_pos h]; exact propext ⟨fun q => ⟨h, q⟩, fun q => q.2⟩
    · rw [if_neg h]; exact propext ⟨fun q => q.elim, fun q => h q.1⟩
theorem wp_Lst {ma : ML} {Q : T → DEnv → Prop} : wp (mLst ma) ρ Q = wp ma ρ fun ds ρ1 => small ds.length = true ∧ Q (.lst ds) ρ1 := by
  unfold wp mLst
  cases ma ρ with
  | none => rfl
  | some x =>
    obtain ⟨ds, ρ1⟩ := x
    simp only
    by_cases h : small ds.length = true
    · rw [if_pos h]; exact propext ⟨fun q => ⟨h, q⟩, fun q => q.2⟩
    · rw [if_neg h]; exact propext ⟨fun q => q.elim, fun q => h q.1⟩
theorem wp_Call {g : List PyData → Option PyData} {ma : MA} {Q : PyData → DEnv → Prop} : wp (mCall g ma) ρ Q = wp ma ρ fun rs ρ1 => optP (rdL ρ1 rs) fun ds => optP (g ds) fun z => Q z ρ1 := by
  unfold wp mCall optP
  cases ma ρ with
  | none => rfl
  | some x =>
    obtain ⟨rs, ρ1⟩ := x
    simp only
    cases rdL ρ1 rs with
    | none => rfl
    | some ds =>
      simp only
      cases g ds <;> rfl
theorem wp_Nx {Q : Out → DEnv → Prop} : wp mNx ρ Q = Q .nx ρ := rfl
theorem wp_Bk {Q : Out → DEnv → Prop} : wp mBk ρ Q = Q .bk ρ := rfl
theorem wp_Ct {Q : Out → DEnv → Prop} : wp mCt ρ Q = Q .ct ρ := rfl
theorem wp_No {Q : Out → DEnv → Prop} : wp mNo ρ Q = False := rfl
theorem wp_Seq {m1 m2 : MS} {Q : Out → DEnv → Prop} : wp (mSeq m1 m2) ρ Q = wp m1 ρ fun o ρ1 => match o with
    | .nx => wp m2 ρ1 Q
    | .ret t => Q (.ret t) ρ1
    | .bk => Q .bk ρ1
    | .ct => Q .ct ρ1 := by
  unfold wp mSeq
  cases m1 ρ with
  | none => rfl
  | some x => obtain ⟨o, ρ1⟩ := x; cases o <;> rfl
theorem wp_Asg {i : Nat} {m : MV} {Q : Out → DEnv → Prop} : wp (mAsg i m) ρ Q = wp m ρ fun d ρ1 => Q .nx (ρ1.set i (some (.dat d))) := by
  unfold wp mAsg
  cases m ρ <;> rfl
theorem wp_AsgO {i : Nat} {m : MO} {Q : Out → DEnv → Prop} : wp (mAsgO i m) ρ Q = wp m ρ fun d ρ1 => Q .nx (ρ1.set i (some d)) := by
  unfold wp mAsgO
  cases m ρ <;> rfl
theorem wp_AsgG {g : PyData → DEnv → Option DEnv} {m : MV} {Q : Out → DEnv → Prop} : wp (mAsgG g m) ρ Q = wp m ρ fun d ρ1 => optP (g d ρ1) fun ρ2 => Q .nx ρ2 := by
  unfold wp mAsgG optP
  cases m ρ with
  | none => rfl
  | some x =>
    obtain ⟨d, ρ1⟩ := x
    simp only
    cases g d ρ1 <;> rfl
theorem wp_Par {i j : Nat} {m : ML} {Q : Out → DEnv → Prop} : wp (mPar i j m) ρ Q = wp m ρ fun ds ρ1 => match ds with
    | [d, e] => Q .nx ((ρ1.set i (some (.dat d))).set j (some (.dat e)))
    | _ => False := by
  unfold wp mPar
  cases m ρ with
  | none => rfl
  | some x =>
    obtain ⟨ds, ρ1⟩ := x
    match ds with
    | [] => rfl
    | [_] => rfl
    | [_, _] => rfl
    | _ :: _ :: _ :: _ => rfl
theorem wp_Par3 {i j l : Nat} {m : ML} {Q : Out → DEnv → Prop} : wp (mPar3 i j l m) ρ Q = wp m ρ fun ds ρ1 => match ds with
    | [d, e, f] => Q .nx (((ρ1.set i (some (.dat d))).set j (some (.dat e))).set l (some (.dat f)))
    | _ => False := by
  unfold wp mPar3
  cases m ρ with
  | none => rfl
  | some x =>
    obtain ⟨ds, ρ1⟩ := x
    match ds with
    | [] => rfl
    | [_] => rfl
    | [_, _] => rfl
    | [_, _, _] => rfl
    | _ :: _ :: _ :: _ :: _ => rfl
def asLoc : R → Option Nat
  | .loc j => some j
  | _ => none
def asInt : R → Option Int
  | .dat (.int k) => some k
  | _ => none
def lstAt (ρ : DEnv) (j : Nat) : Option (List PyData) := match ρ[j]? with
  | some (some (.lst ds)) => some ds
  | _ => none
theorem wp_SetIx {mo mi : ME} {m : MV} {Q : Out → DEnv → Prop} : wp (mSetIx mo mi m) ρ Q = wp m ρ fun d ρ1 => wp mo ρ1 fun r ρ2 => optP (asLoc r) fun j => wp mi ρ2 fun r2 ρ3 => optP (asInt r2) fun k => optP (lstAt ρ3 j) fun ds => optP (ixN ds.length k) fun n => Q .nx (ρ3.set j (some (.lst (ds.set n d)))) := by
  unfold wp mSetIx optP lstAt
  cases m ρ with
  | none => rfl
  | some x =>
    obtain ⟨d, ρ1⟩ := x
    simp only
    cases mo ρ1 with
    | none => rfl
    | some y =>
      obtain ⟨r, ρ2⟩ := y
      cases r with
      | dat _ => rfl
      | loc j =>
        simp only [asLoc]
        cases mi ρ2 with
        | none => rfl
        | some z =>
          obtain ⟨r2, ρ3⟩ := z
          cases r2 with
          | loc _ => rfl
          | dat d2 =>
            cases d2 with
            | int k =>
              simp only [asInt]
              cases ρ3[j]? with
              | none => rfl
              | some o => cases o with
                | none => rfl
                | some t => cases t with
                  | lst ds =>
                    simp only
                    cases ixN ds.length k <;> rfl
                  | _ => rfl
            | _ => rfl
theorem wp_Mt {g : List PyData → List PyData → Option (PyData × List PyData)} {mo : ME} {ma : ML} {Q : PyData → DEnv → Prop} : wp (mMt g mo ma) ρ Q = wp mo ρ fun r ρ1 => optP (asLoc r) fun j => optP (lstAt ρ1 j) fun _ => wp ma ρ1 fun as ρ2 => optP (lstAt ρ2 j) fun ds => optP (g ds as) fun z => Q z.1 (ρ2.set j (some (.lst z.2))) := by
  unfold wp mMt optP lstAt
  cases mo ρ with
  | none => rfl
  | some x =>
    obtain ⟨r, ρ1⟩ := x
    cases r with
    | dat _ => rfl
    | loc j =>
      simp only [asLoc]
      cases ρ1[j]? with
      | none => rfl
      | some o => cases o with
        | none => rfl
        | some t => cases t with
          | lst ds0 =>
            simp only
            cases ma ρ1 with
            | none => rfl
            | some y =>
              obtain ⟨as, ρ2⟩ := y
              simp only
              cases ρ2[j]? with
              | none => rfl
              | some o2 => cases o2 with
                | none => rfl
                | some t2 => cases t2 with
                  | lst ds =>
                    simp only
                    cases g ds as <;> rfl
                  | _ => rfl
          | _ => rfl
theorem wp_Drop {m : MV} {Q : Out → DEnv → Prop} : wp (mDrop m) ρ Q = wp m ρ fun _ ρ1 => Q .nx ρ1 := by
  unfold wp mDrop
  cases m ρ <;> rfl
theorem wp_Ret {m : MO} {Q : Out → DEnv → Prop} : wp (mRet m) ρ Q = wp m ρ fun t ρ1 => Q (.ret t) ρ1 := by
  unfold wp mRet
  cases m ρ <;> rfl
theorem wp_RetN {Q : Out → DEnv → Prop} : wp mRetN ρ Q = Q (.ret (.dat .none)) ρ := rfl
theorem wp_RetV {rts : List Nat} {i : Nat} {Q : Out → DEnv → Prop} : wp (mRetV rts i) ρ Q = match ρ[i]? with
    | some (some t) => rts.contains i = false ∧ Q (.ret t) (ρ.set i none)
    | _ => False := by
  unfold wp mRetV
  cases ρ[i]? with
  | none => rfl
  | some o => cases o with
    | none => rfl
    | some t =>
      simp only
      cases rts.contains i with
      | true => exact propext ⟨fun q => q.elim, fun q => by cases q.1⟩
      | false => exact propext ⟨fun q => ⟨rfl, q⟩, fun q => q.2⟩
theorem wp_Tru {m : ME} {Q : Bool → DEnv → Prop} : wp (mTru m) ρ Q = wp m ρ fun r ρ1 => optP (rd ρ1 r) fun d => optP (gTru d) fun b => Q b ρ1 := by
  unfold wp mTru optP
  cases m ρ with
  | none => rfl
  | some x =>
    obtain ⟨r, ρ1⟩ := x
    simp only
    cases rd ρ1 r with
    | none => rfl
    | some d =>
      simp only
      cases gTru d <;> rfl
theorem wp_Isi {T : String} {m : ME} {Q : PyData → DEnv → Prop} : wp (mIsi T m) ρ Q = wp m ρ fun r ρ1 => optP (rd ρ1 r) fun d => optP (isTy T d) fun b => Q (.bool b) ρ1 := by
  unfold wp mIsi optP
  cases m ρ with
  | none => rfl
  | some x =>
    obtain ⟨r, ρ1⟩ := x
    simp only
    cases rd ρ1 r with
    | none => rfl
    | some d =>
      simp only
      cases isTy T d <;> rfl
theorem wp_Part {m : MV} {Q : Option Int → DEnv → Prop} : wp (mPart m) ρ Q = wp m ρ fun d ρ1 => match d with
    | .int i => Q (some i) ρ1
    | _ => False := by
  unfold wp mPart
  cases m ρ with
  | none => rfl
  | some x => obtain ⟨d, ρ1⟩ := x; cases d <;> rfl
theorem wp_NoPart {Q : Option Int → DEnv → Prop} : wp mNoPart ρ Q = Q none ρ := rfl
theorem wp_Sl {m : ME} {ml mh : DEnv → Option (Option Int × DEnv)} {Q : PyData → DEnv → Prop} : wp (mSl m ml mh) ρ Q = wp m ρ fun r ρ1 => wp ml ρ1 fun lo ρ2 => wp mh ρ2 fun hi ρ3 => optP (rd ρ3 r) fun d => optP (gSl d lo hi) fun z => Q z ρ3 := by
  unfold wp mSl optP
  cases m ρ with
  | none => rfl
  | some x =>
    obtain ⟨r, ρ1⟩ := x
    simp only
    cases ml ρ1 with
    | none => rfl
    | some y =>
      obtain ⟨lo, ρ2⟩ := y
      simp only
      cases mh ρ2 with
      | none => rfl
      | some z =>
        obtain ⟨hi, ρ3⟩ := z
        simp only
        cases rd ρ3 r with
        | none => rfl
        | some d =>
          simp only
          cases gSl d lo hi <;> rfl
def asStr : R → Option Str
  | .dat (.str a) => some a
  | _ => none
theorem wp_MS {g : List PyData → Option PyData} {mo : ME} {ma : MA} {Q : PyData → DEnv → Prop} : wp (mMS g mo ma) ρ Q = wp mo ρ fun r ρ1 => optP (asStr r) fun a => wp ma ρ1 fun rs ρ2 => optP (rdL ρ2 rs) fun ds => optP (g (.str a :: ds)) fun z => Q z ρ2 := by
  unfold wp mMS optP
  cases mo ρ with
  | none => rfl
  | some x =>
    obtain ⟨r, ρ1⟩ := x
    cases r with
    | loc _ => rfl
    | dat d =>
      cases d with
      | str a =>
        simp only [asStr]
        cases ma ρ1 with
        | none => rfl
        | some y =>
          obtain ⟨rs, ρ2⟩ := y
          simp only
          cases rdL ρ2 rs with
          | none => rfl
          | some ds =>
            simp only
            cases g (.str a :: ds) <;> rfl
      | _ => rfl
theorem wp_Dict0 {Q : PyData → DEnv → Prop} : wp mDict0 ρ Q = Q (.dict []) ρ := rfl
theorem wp_SeqI {m : MV} {Q : List PyData → DEnv → Prop} : wp (mSeqI m) ρ Q = wp m ρ fun d ρ1 => optP (seqOf d) fun ds => Q ds ρ1 := by
  unfold wp mSeqI optP
  cases m ρ with
  | none => rfl
  | some x =>
    obtain ⟨d, ρ1⟩ := x
    simp only
    cases seqOf d <;> rfl
theorem wp_StrI {m : MV} {Q : List PyData → DEnv → Prop} : wp (mStrI m) ρ Q = wp m ρ fun d ρ1 => match d with
    | .str z => Q (signsOf z) ρ1
    | _ => False := by
  unfold wp mStrI
  cases m ρ with
  | none => rfl
  | some x => obtain ⟨d, ρ1⟩ := x; cases d <;> rfl
theorem wp_Rng1 {ma : ML} {Q : List PyData → DEnv → Prop} : wp (mRng1 ma) ρ Q = wp ma ρ fun ds ρ1 => match ds with
    | [.int j] => inRange j = true ∧ Q (rngD 0 j.toNat) ρ1
    | _ => False := by
  unfold wp mRng1
  cases ma ρ with
  | none => rfl
  | some x =>
    obtain ⟨ds, ρ1⟩ := x
    match ds with
    | [] => rfl
    | [d] =>
      cases d with
      | int j =>
        simp only
        by_cases h : inRange j = true
        · rw [if_pos h]; exact propext ⟨fun q => ⟨h, q⟩, fun q => q.2⟩
        · rw [if_neg h]; exact propext ⟨fun q => q.elim, fun q => h q.1⟩
      | _ => rfl
    | d :: _ :: _ => cases d <;> rfl
theorem wp_For {mi : ML} {g : PyData → DEnv → Option DEnv} {mb : MS} {Q : Out → DEnv → Prop} : wp (mFor mi g mb) ρ Q = wp mi ρ fun ds ρ1 => wp (mForL g mb ds) ρ1 Q := by
  unfold wp mFor
  cases mi ρ <;> rfl
theorem wp_ForNil {g : PyData → DEnv → Option DEnv} {mb : MS} {Q : Out → DEnv → Prop} : wp (mForL g mb []) ρ Q = Q .nx ρ := rfl
theorem wp_ForCons {g : PyData → DEnv → Option DEnv} {mb : MS} {d : PyData} {ds : List PyData} {Q : Out → DEnv → Prop} : wp (mForL g mb (d :: ds)) ρ Q = optP (g d ρ) fun ρ1 => wp mb ρ1 fun o ρ2 => match o with
    | .nx => wp (mForL g mb ds) ρ2 Q
    | .ct => wp (mForL g mb ds) ρ2 Q
    | .bk => Q .nx ρ2
    | .ret t => Q (.ret t) ρ2 := by
  unfold optP wp
  rw [mForL_cons]
  cases g d ρ with
  | none => rfl
  | some ρ1 =>
    simp only
    cases mb ρ1 with
    | none => rfl
    | some x => obtain ⟨o, ρ2⟩ := x; cases o <;> rfl
/-- a loop by an invariant over the items that are left -/
theorem wp_for {g : PyData → DEnv → Option DEnv} {mb : MS} {Q : Out → DEnv → Prop} (I : List PyData → DEnv → Prop) (step : ∀ d ds ρ, I (d :: ds) ρ → optP (g d ρ) fun ρ1 => wp mb ρ1 fun o ρ2 => match o with
    | .nx => I ds ρ2
    | .ct => I ds ρ2
    | .bk => Q .nx ρ2
    | .ret t => Q (.ret t) ρ2) (done : ∀ ρ, I [] ρ → Q .nx ρ) : ∀ (ds : List PyData) (ρ : DEnv), I ds ρ → wp (mForL g mb ds) ρ Q
  | [], ρ, h => done ρ h
  | d :: ds, ρ, h => by
    rw [wp_ForCons]
    have s := step d ds ρ h
    unfold optP at s ⊢
    split at s
    · refine wp_mono s fun o ρ2 q => ?_
      cases o with
      | nx => exact wp_for I step done ds ρ2 q
      | ct => exact wp_for I step done ds ρ2 q
      | bk => exact q
      | ret t => exact q
    · exact s.elim
theorem wp_Lc {vs : List Nat} {mi : ML} {g : PyData → DEnv → Option DEnv} {mt : MT} {me : MV} {Q : T → DEnv → Prop} : wp (mLc vs mi g mt me) ρ Q = wp mi ρ fun ds ρ1 => small ds.length = true ∧ wp (mLcL vs g mt me ds) (wipeD ρ1 vs) fun zs ρ2 => Q (.lst zs) ρ2 := by
  unfold wp mLc
  cases mi ρ with
  | none => rfl
  | some x =>
    obtain ⟨ds, ρ1⟩ := x
    simp only
    by_cases h : small ds.length = true
    · rw [if_pos h]
      cases mLcL vs g mt me ds (wipeD ρ1 vs) with
      | none => exact propext ⟨fun q => q.elim, fun q => q.2⟩
      | some y => exact propext ⟨fun q => ⟨h, q⟩, fun q => q.2⟩
    · rw [if_neg h]; exact propext ⟨fun q => q.elim, fun q => h q.1⟩
theorem wp_LcNil {vs : List Nat} {g : PyData → DEnv → Option DEnv} {mt : MT} {me : MV} {Q : List PyData → DEnv → Prop} : wp (mLcL vs g mt me []) ρ Q = Q [] ρ := rfl
theorem wp_LcCons {vs : List Nat} {g : PyData → DEnv → Option DEnv} {mt : MT} {me : MV} {d : PyData} {ds : List PyData} {Q : List PyData → DEnv → Prop} : wp (mLcL vs g mt me (d :: ds)) ρ Q = optP (g d ρ) fun ρ1 => wp mt ρ1 fun b ρ2 => match b with
    | true => wp me ρ2 fun z ρ3 => wp (mLcL vs g mt me ds) (wipeD ρ3 vs) fun zs ρ4 => Q (z :: zs) ρ4
    | false => wp (mLcL vs g mt me ds) (wipeD ρ2 vs) Q := by
  unfold optP wp
  rw [mLcL_cons]
  cases g d ρ with
  | none => rfl
  | some ρ1 =>
    simp only
    cases mt ρ1 with
    | none => rfl
    | some x =>
      obtain ⟨b, ρ2⟩ := x
      cases b with
      | false => rfl
      | true =>
        simp only
        cases me ρ2 with
        | none => rfl
        | some y =>
          obtain ⟨z, ρ3⟩ := y
          simp only
          cases mLcL vs g mt me ds (wipeD ρ3 vs) <;> rfl
/-- a comprehension by an invariant: what is made so far comes in front -/
theorem wp_lc {vs : List Nat} {g : PyData → DEnv → Option DEnv} {mt : MT} {me : MV} {Q : List PyData → DEnv → Prop} (I : List PyData → List PyData → DEnv → Prop) (step : ∀ ac d ds ρ, I ac (d :: ds) ρ → optP (g d ρ) fun ρ1 => wp mt ρ1 fun b ρ2 => match b with
    | true => wp me ρ2 fun z ρ3 => I (ac ++ [z]) ds (wipeD ρ3 vs)
    | false => I ac ds (wipeD ρ2 vs)) (done : ∀ ac ρ, I ac [] ρ → Q ac ρ) : ∀ (ds ac : List PyData) (ρ : DEnv), I ac ds ρ → wp (mLcL vs g mt me ds) ρ fun zs ρ' => Q (ac ++ zs) ρ'
  | [], ac, ρ, h => by
    rw [wp_LcNil, List.append_nil]
    exact done ac ρ h
  | d :: ds, ac, ρ, h => by
    rw [wp_LcCons]
    have s := step ac d ds ρ h
    unfold optP at s ⊢
    split at s
    · refine wp_mono s fun b ρ2 q => ?_
      cases b with
      | true =>
        refine wp_mono q fun z ρ3 q3 => ?_
        have := wp_lc I step done ds (ac ++ [z]) (wipeD ρ3 vs) q3
        refine wp_mono this fun zs ρ4 q4 => ?_
        rw [List.append_assoc] at q4
        exact q4
      | false => exact wp_lc I step done ds ac (wipeD ρ2 vs) q
    · exact s.elim
theorem wp_Yes {Q : Bool → DEnv → Prop} : wp mYes ρ Q = Q true ρ := rfl
theorem wp_Cl {f : DEnv → Option (T × DEnv)} {ma : MA} {Q : T → DEnv → Prop} : wp (mCl f ma) ρ Q = wp ma ρ fun rs ρ1 => distinct rs = true ∧ optP (argsT ρ1 rs) fun ρc => wp f ρc fun t ρc' => Q t (putBack rs ρc' ρ1) := by
  unfold wp mCl optP
  cases ma ρ with
  | none => rfl
  | some x =>
    obtain ⟨rs, ρ1⟩ := x
    simp only
    by_cases h : distinct rs = true
    · rw [if_pos h]
      cases argsT ρ1 rs with
      | none => exact propext ⟨fun q => q.elim, fun q => q.2⟩
      | some ρc =>
        simp only
        cases f ρc with
        | none => exact propext ⟨fun q => q.elim, fun q => q.2⟩
        | some y => exact propext ⟨fun q => ⟨h, q⟩, fun q => q.2⟩
    · rw [if_neg h]; exact propext ⟨fun q => q.elim, fun q => h q.1⟩
theorem wp_Fn {n N : Nat} {rts : List Nat} {mb : MS} {Q : T → DEnv → Prop} : wp (mFn n N rts mb) ρ Q = (okP n rts ρ = true ∧ wp mb (ρ ++ List.replicate (N - n) none) fun o ρ2 => match o with
    | .ret t => Q t (fin n rts ρ2)
    | .nx => Q (.dat .none) (fin n rts ρ2)
    | _ => False) := by
  unfold wp mFn
  by_cases h : okP n rts ρ = true
  · rw [if_pos h]
    cases mb (ρ ++ List.replicate (N - n) none) with
    | none => exact propext ⟨fun q => q.elim, fun q => q.2⟩
    | some x =>
      obtain ⟨o, ρ2⟩ := x
      cases o with
      | nx => exact propext ⟨fun q => ⟨h, q⟩, fun q => q.2⟩
      | ret t => exact propext ⟨fun q => ⟨h, q⟩, fun q => q.2⟩
      | bk => exact propext ⟨fun q => q.elim, fun q => q.2⟩
      | ct => exact propext ⟨fun q => q.elim, fun q => q.2⟩
  · rw [if_neg h]; exact propext ⟨fun q => q.elim, fun q => h q.1⟩
/-- a while loop by an invariant and a measure -/
theorem wp_wh {mt : MT} {mb : MS} {Q : Out → DEnv → Prop} (I : Nat → DEnv → Prop) (step : ∀ n ρ, I n ρ → wp mt ρ fun b ρ1 => match b with
    | true => wp mb ρ1 fun o ρ2 => match o with
      | .nx => ∃ k, k < n ∧ I k ρ2
      | .ct => ∃ k, k < n ∧ I k ρ2
      | .bk => Q .nx ρ2
      | .ret t => Q (.ret t) ρ2
    | false => Q .nx ρ1) (n : Nat) (ρ : DEnv) (h : I n ρ) : wp (mWh mt mb) ρ Q := by
  have key : ∀ (n : Nat) (ρ : DEnv), I n ρ → ∃ x, mWhN mt mb (n + 1) ρ = some x ∧ Q x.1 x.2 := by
    intro n
    induction n using Nat.strongRecOn with
    | ind n ih =>
      intro ρ h
      have s := step n ρ h
      rw [mWhN_succ]
      unfold wp at s
      cases h1 : mt ρ with
      | none => simp only [h1] at s
      | some y =>
        obtain ⟨b, ρ1⟩ := y
        simp only [h1] at s
        cases b with
        | false => exact ⟨_, rfl, s⟩
        | true =>
          simp only at s ⊢
          cases h2 : mb ρ1 with
          | none => simp only [h2] at s
          | some z =>
            obtain ⟨o, ρ2⟩ := z
            simp only [h2] at s
            have again : (∃ k, k < n ∧ I k ρ2) → ∃ x, mWhN mt mb n ρ2 = some x ∧ Q x.1 x.2 := fun ⟨k, hk, hI⟩ => by
              obtain ⟨x, e, q⟩ := ih k hk ρ2 hI
              refine ⟨x, ?_, q⟩
              have := mWhN_more e (n - (k + 1))
              rw [show k + 1 + (n - (k + 1)) = n by omega] at this
              exact this
            cases o with
            | nx => exact again s
            | ct => exact again s
            | bk => exact ⟨_, rfl, s⟩
            | ret t => exact ⟨_, rfl, s⟩
  obtain ⟨x, e, q⟩ := key n ρ h
  unfold wp
  rw [mWh_of e]
  exact q
end
end Sem
-- SemI
/-! SemI: how the operators compute on written data. -/
namespace Sem
open PySem L2 PyProof.Rows
section
variable {ρ : DEnv} {d e : PyData} {ds es : List PyData} {i j : Int} {b c : Bool} {x y : Str}
theorem rd_dat : rd ρ (.dat d) = some d := rfl
theorem rd_loc {i : Nat} : rd ρ (.loc i) = match ρ[i]? with
    | some (some (.lst ds)) => some (.list ds)
    | some (some (.dat d)) => some d
    | _ => none := rfl
theorem rdL_nil : rdL ρ [] = some [] := rfl
theorem rdL_cons {r : R} {rs : List R} : rdL ρ (r :: rs) = match rd ρ r, rdL ρ rs with
    | some d, some ds => some (d :: ds)
    | _, _ => none := rfl
theorem gAdd_ii : gAdd (.int i) (.int j) = some (.int (i + j)) := rfl
theorem gAdd_ss : gAdd (.str x) (.str y) = if small (x.length + y.length) then some (.str (x ++ y)) else none := rfl
theorem gAdd_ll : gAdd (.list ds) (.list es) = if small (ds.length + es.length) then some (.list (ds ++ es)) else none := rfl
theorem gAdd_tt : gAdd (.tuple ds) (.tuple es) = if small (ds.length + es.length) then some (.tuple (ds ++ es)) else none := rfl
theorem gMul_ii : gMul (.int i) (.int j) = if mulOk i j then some (.int (i * j)) else none := rfl
theorem gMul_li : gMul (.list ds) (.int j) = if decide (-(2 ^ 63) ≤ j) && decide (j < 2 ^ 63) && small (ds.length * j.toNat) then some (.list (List.replicate j.toNat ds).flatten) else none := rfl
theorem gII_ii {c : Int → Int → Bool} {g : Int → Int → Int} : gII c g (.int i) (.int j) = if c i j then some (.int (g i j)) else none := rfl
theorem gII0_ii {g : Int → Int → Int} : gII0 g (.int i) (.int j) = some (.int (g i j)) := rfl
theorem gIB_ii {g : Int → Int → Bool} : gIB g (.int i) (.int j) = some (.bool (g i j)) := rfl
theorem gNeg_i : gNeg (.int i) = some (.int (-i)) := rfl
theorem gEq_f : gEq false d e = if SeqAt.shaped d && SeqAt.shaped e then some (.bool (PyData.eqv d e)) else none := rfl
theorem gEq_t : gEq true d e = if SeqAt.shaped d && SeqAt.shaped e then some (.bool (!PyData.eqv d e)) else none := rfl
theorem shaped_int : SeqAt.shaped (.int i) = true := by
  unfold SeqAt.shaped
  simp [PyData.canLay0, PyData.depth]
theorem shaped_bool : SeqAt.shaped (.bool b) = true := by
  unfold SeqAt.shaped
  simp [PyData.canLay0, PyData.depth]
theorem shaped_none : SeqAt.shaped .none = true := by
  unfold SeqAt.shaped
  simp [PyData.canLay0, PyData.depth]
theorem gEq_fii : gEq false (.int i) (.int j) = some (.bool (i == j)) := by
  rw [gEq_f, shaped_int, shaped_int]
  simp [PyData.eqv]
theorem gEq_tii : gEq true (.int i) (.int j) = some (.bool (!(i == j))) := by
  rw [gEq_t, shaped_int, shaped_int]
  simp [PyData.eqv]
theorem gEq_fbb : gEq false (.bool b) (.bool c) = some (.bool (b == c)) := by
  rw [gEq_f, shaped_bool, shaped_bool]
  simp [PyData.eqv]
theorem gIs_fn : gIs false d .none = some (.bool (isNone d)) := by cases d <;> rfl
theorem gIs_tn : gIs true d .none = some (.bool (!isNone d)) := by cases d <;> rfl
theorem gIs_fb : gIs false (.bool b) (.bool c) = some (.bool (decide (b = c))) := rfl
theorem gIs_tb : gIs true (.bool b) (.bool c) = some (.bool (!decide (b = c))) := rfl
theorem isNone_none : isNone .none = true := rfl
theorem isNone_int : isNone (.int i) = false := rfl
theorem isNone_tuple : isNone (.tuple ds) = false := rfl
theorem isNone_str : isNone (.str x) = false := rfl
theorem gTru_b : gTru (.bool b) = some b := rfl
theorem gTru_i : gTru (.int i) = some (i != 0) := rfl
theorem gTru_n : gTru .none = some false := rfl
theorem gTru_l : gTru (.list ds) = some (!ds.isEmpty) := rfl
theorem gTru_t : gTru (.tuple ds) = some (!ds.isEmpty) := rfl
theorem gTru_s : gTru (.str x) = if small x.length then some ((x.length : Int) != 0) else none := rfl
theorem atI_0 {α : Type} {a : α} {r : List α} : atI (a :: r) 0 = some a := atI_nat (j := 0) rfl
theorem atI_1 {α : Type} {a b : α} {r : List α} : atI (a :: b :: r) 1 = some b := atI_nat (j := 1) rfl
theorem atI_2 {α : Type} {a b c : α} {r : List α} : atI (a :: b :: c :: r) 2 = some c := atI_nat (j := 2) rfl
theorem atI_3 {α : Type} {a b c d : α} {r : List α} : atI (a :: b :: c :: d :: r) 3 = some d := atI_nat (j := 3) rfl
theorem atI_4 {α : Type} {a b c d e : α} {r : List α} : atI (a :: b :: c :: d :: e :: r) 4 = some e := atI_nat (j := 4) rfl
theorem atI_5 {α : Type} {a b c d e f : α} {r : List α} : atI (a :: b :: c :: d :: e :: f :: r) 5 = some f := atI_nat (j := 5) rfl
theorem gIx_l : gIx (.list ds) (.int i) = atI ds i := rfl
theorem gIx_t : gIx (.tuple ds) (.int i) = atI ds i := rfl
theorem gIx_s : gIx (.str x) (.int i) = if small x.length then (atI x.cps.toList i).map fun c => .str ⟨#[c]⟩ else none := rfl
theorem gAbs_i : gAbs [.int i] = some (.int (if i < 0 then -i else i)) := rfl
theorem gMin_ii : gMin [.int i, .int j] = some (.int (if j < i then j else i)) := rfl
theorem gInt_i : gInt [.int i] = some (.int i) := rfl
theorem gInt_b : gInt [.bool b] = some (.int (if b then 1 else 0)) := rfl
theorem gInt_s : gInt [.str x] = if decide (x.length ≤ 640) then (PySem.intText? x).map .int else none := rfl
theorem gStr_i : gStr [.int i] = if decide (i.natAbs.log2 < 1920) then some (.str (toString i)) else none := rfl
theorem gLen_s : gLen [.str x] = if small x.length then some (.int x.length) else none := rfl
theorem gLen_l : gLen [.list ds] = some (.int ds.length) := rfl
theorem gLen_t : gLen [.tuple ds] = some (.int ds.length) := rfl
theorem gTuple_l : gTuple [.list ds] = some (.tuple ds) := rfl
theorem gTuple_t : gTuple [.tuple ds] = some (.tuple ds) := rfl
theorem gAny_l {bs : List Bool} : gAny [.list (bs.map PyData.bool)] = some (.bool (bs.any id)) := by
  show (boolsOf (bs.map PyData.bool)).map _ = _
  rw [boolsOf_map]
  rfl
theorem gAll_l {bs : List Bool} : gAll [.list (bs.map PyData.bool)] = some (.bool (bs.all id)) := by
  show (boolsOf (bs.map PyData.bool)).map _ = _
  rw [boolsOf_map]
  rfl
theorem frT_dat : frT (.dat d) = some d := rfl
theorem frT_lst : frT (.lst ds) = some (.list ds) := rfl
theorem asLoc_loc {j : Nat} : asLoc (.loc j) = some j := rfl
theorem asInt_int : asInt (.dat (.int i)) = some i := rfl
theorem asStr_str : asStr (.dat (.str x)) = some x := rfl
theorem seqOf_l : seqOf (.list ds) = some ds := rfl
theorem seqOf_t : seqOf (.tuple ds) = some ds := rfl
theorem gN_eq {n : Nat} : gN n d ρ = some (ρ.set n (some (.dat d))) := rfl
theorem gN0_eq : gN0 [] ρ = some ρ := rfl
theorem gN1_eq {g : PyData → DEnv → Option DEnv} {gs : List PyData → DEnv → Option DEnv} : gN1 g gs (d :: ds) ρ = match g d ρ with
    | some ρ1 => gs ds ρ1
    | none => none := rfl
theorem gT_eq {n : Nat} {gs : List PyData → DEnv → Option DEnv} : gT n gs (.tuple ds) ρ = if ds.length = n then gs ds ρ else none := rfl
theorem argsT_nil : argsT ρ [] = some [] := rfl
theorem argsT_cons {r : R} {rs : List R} : argsT ρ (r :: rs) = match argT ρ r, argsT ρ rs with
    | some t, some ts => some (t :: ts)
    | _, _ => none := rfl
theorem argT_dat : argT ρ (.dat d) = some (some (.dat d)) := rfl
theorem argT_loc {i : Nat} : argT ρ (.loc i) = match ρ[i]? with
    | some (some (.lst ds)) => some (some (.lst ds))
    | some (some (.scr a ns)) => some (some (.scr a ns))
    | _ => none := rfl
theorem putBack_nil {ts : DEnv} : putBack [] ts ρ = ρ := by unfold putBack; rfl
theorem putBack_dat {rs : List R} {t : Option T} {ts : DEnv} : putBack (.dat d :: rs) (t :: ts) ρ = putBack rs ts ρ := by rw [putBack]
theorem putBack_loc {i : Nat} {rs : List R} {t : Option T} {ts : DEnv} : putBack (.loc i :: rs) (t :: ts) ρ = putBack rs ts (ρ.set i t) := by rw [putBack]
theorem distinct_nil : distinct [] = true := rfl
theorem distinct_dat {rs : List R} : distinct (.dat d :: rs) = distinct rs := rfl
theorem distinct_loc {i : Nat} {rs : List R} : distinct (.loc i :: rs) = (!hasLoc i rs && distinct rs) := rfl
theorem hasLoc_nil {i : Nat} : hasLoc i [] = false := rfl
theorem hasLoc_dat {i : Nat} {rs : List R} : hasLoc i (.dat d :: rs) = hasLoc i rs := rfl
theorem hasLoc_loc {i j : Nat} {rs : List R} : hasLoc i (.loc j :: rs) = (j == i || hasLoc i rs) := rfl
end
theorem optP_iteT {α : Type} {c : Bool} {x : α} {Q : α → Prop} : optP (if c = true then some x else none) Q = (c = true ∧ Q x) := optP_ite
end Sem
-- SemJ
/-! SemJ: a step at a time. -/
namespace Sem
open PySem L2 PyProof.Rows
section
variable {ρ : DEnv} {β : Type}
theorem wp_seq {m1 m2 : MS} {Q : Out → DEnv → Prop} (ρ' : DEnv) (h1 : wp m1 ρ fun o ρ1 => o = .nx ∧ ρ1 = ρ') (h2 : wp m2 ρ' Q) : wp (mSeq m1 m2) ρ Q := by
  rw [wp_Seq]
  refine wp_mono h1 fun o ρ1 h => ?_
  obtain ⟨rfl, rfl⟩ := h
  exact h2
theorem wp_seqE {m1 m2 : MS} {Q : Out → DEnv → Prop} (R : DEnv → Prop) (h1 : wp m1 ρ fun o ρ1 => o = .nx ∧ R ρ1) (h2 : ∀ ρ1, R ρ1 → wp m2 ρ1 Q) : wp (mSeq m1 m2) ρ Q := by
  rw [wp_Seq]
  refine wp_mono h1 fun o ρ1 h => ?_
  obtain ⟨rfl, h⟩ := h
  exact h2 ρ1 h
theorem wp_seqR {m1 m2 : MS} {Q : Out → DEnv → Prop} (t : T) (ρ' : DEnv) (h1 : wp m1 ρ fun o ρ1 => o = .ret t ∧ ρ1 = ρ') (h2 : Q (.ret t) ρ') : wp (mSeq m1 m2) ρ Q := by
  rw [wp_Seq]
  refine wp_mono h1 fun o ρ1 h => ?_
  obtain ⟨rfl, rfl⟩ := h
  exact h2
theorem wp_seqRE {m1 m2 : MS} {Q : Out → DEnv → Prop} (h1 : wp m1 ρ fun o ρ1 => ∃ t, o = .ret t ∧ Q (.ret t) ρ1) : wp (mSeq m1 m2) ρ Q := by
  rw [wp_Seq]
  refine wp_mono h1 fun o ρ1 h => ?_
  obtain ⟨t, rfl, h⟩ := h
  exact h
theorem wp_ifT {mt : MT} {ma mb : DEnv → Option (β × DEnv)} {Q : β → DEnv → Prop} (h : wp mt ρ fun b ρ1 => b = true ∧ ρ1 = ρ) (h2 : wp ma ρ Q) : wp (mIf mt ma mb) ρ Q := by
  rw [wp_If]
  refine wp_mono h fun b ρ1 h => ?_
  obtain ⟨rfl, rfl⟩ := h
  exact h2
theorem wp_ifF {mt : MT} {ma mb : DEnv → Option (β × DEnv)} {Q : β → DEnv → Prop} (h : wp mt ρ fun b ρ1 => b = false ∧ ρ1 = ρ) (h2 : wp mb ρ Q) : wp (mIf mt ma mb) ρ Q := by
  rw [wp_If]
  refine wp_mono h fun b ρ1 h => ?_
  obtain ⟨rfl, rfl⟩ := h
  exact h2
/-- an if by what its test says -/
theorem wp_ifB {mt : MT} {ma mb : DEnv → Option (β × DEnv)} {Q : β → DEnv → Prop} (b : Bool) (h : wp mt ρ fun b' ρ1 => b' = b ∧ ρ1 = ρ) (h1 : b = true → wp ma ρ Q) (h2 : b = false → wp mb ρ Q) : wp (mIf mt ma mb) ρ Q := by
  cases b with
  | true => exact wp_ifT h (h1 rfl)
  | false => exact wp_ifF h (h2 rfl)
theorem wp_fn {n N : Nat} {rts : List Nat} {mb : MS} {t : T} {ρ' : DEnv} (h0 : okP n rts ρ = true) (h : wp mb (ρ ++ List.replicate (N - n) none) fun o ρ2 => o = .ret t ∧ fin n rts ρ2 = ρ') : mFn n N rts mb ρ = some (t, ρ') := by
  refine of_wp ?_
  rw [wp_Fn]
  refine ⟨h0, wp_mono h fun o ρ2 h => ?_⟩
  obtain ⟨rfl, h⟩ := h
  exact ⟨rfl, h⟩
/-- a def with what comes out told by a property -/
theorem wp_fnE {n N : Nat} {rts : List Nat} {mb : MS} {Q : T → DEnv → Prop} (h0 : okP n rts ρ = true) (h : wp mb (ρ ++ List.replicate (N - n) none) fun o ρ2 => ∃ t, o = .ret t ∧ Q t (fin n rts ρ2)) : wp (mFn n N rts mb) ρ Q := by
  rw [wp_Fn]
  refine ⟨h0, wp_mono h fun o ρ2 h => ?_⟩
  obtain ⟨t, rfl, h⟩ := h
  exact h
theorem wp_orT {ma mb : MT} {Q : Bool → DEnv → Prop} (a b : Bool) (h1 : wp ma ρ fun b' ρ1 => b' = a ∧ ρ1 = ρ) (h2 : a = false → wp mb ρ fun b' ρ1 => b' = b ∧ ρ1 = ρ) (q : Q (a || b) ρ) : wp (mOrT ma mb) ρ Q := by
  rw [wp_OrT]
  refine wp_mono h1 fun b' ρ1 h => ?_
  obtain ⟨rfl, rfl⟩ := h
  cases b' with
  | true => exact q
  | false =>
    refine wp_mono (h2 rfl) fun b2 ρ2 h => ?_
    obtain ⟨rfl, rfl⟩ := h
    exact q
theorem wp_andT {ma mb : MT} {Q : Bool → DEnv → Prop} (a b : Bool) (h1 : wp ma ρ fun b' ρ1 => b' = a ∧ ρ1 = ρ) (h2 : a = true → wp mb ρ fun b' ρ1 => b' = b ∧ ρ1 = ρ) (q : Q (a && b) ρ) : wp (mAndT ma mb) ρ Q := by
  rw [wp_AndT]
  refine wp_mono h1 fun b' ρ1 h => ?_
  obtain ⟨rfl, rfl⟩ := h
  cases b' with
  | false => exact q
  | true =>
    refine wp_mono (h2 rfl) fun b2 ρ2 h => ?_
    obtain ⟨rfl, rfl⟩ := h
    exact q
end
theorem isTy_bool_n : isTy "bool" .none = some false := by
  show kitB "NoneType" "bool" = _
  decide +kernel
theorem isTy_bool_b {b : Bool} : isTy "bool" (.bool b) = some true := by
  show kitB "bool" "bool" = _
  decide +kernel
theorem isTy_bool_i {i : Int} : isTy "bool" (.int i) = some false := by
  show kitB "int" "bool" = _
  decide +kernel
theorem isTy_bool_s {x : Str} : isTy "bool" (.str x) = some false := by
  show kitB "str" "bool" = _
  decide +kernel
theorem isTy_bool_l {ds : List PyData} : isTy "bool" (.list ds) = some false := by
  show kitB "list" "bool" = _
  decide +kernel
theorem isTy_bool_t {ds : List PyData} : isTy "bool" (.tuple ds) = some false := by
  show kitB "tuple" "bool" = _
  decide +kernel
theorem isTy_bool_d {es : List (PyData × PyData)} : isTy "bool" (.dict es) = some false := by
  show kitB "dict" "bool" = _
  decide +kernel
theorem isTy_int_n : isTy "int" .none = some false := by
  show kitB "NoneType" "int" = _
  decide +kernel
theorem isTy_int_b {b : Bool} : isTy "int" (.bool b) = some true := by
  show kitB "bool" "int" = _
  decide +kernel
theorem isTy_int_i {i : Int} : isTy "int" (.int i) = some true := by
  show kitB "int" "int" = _
  decide +kernel
theorem isTy_int_s {x : Str} : isTy "int" (.str x) = some false := by
  show kitB "str" "int" = _
  decide +kernel
theorem isTy_int_l {ds : List PyData} : isTy "int" (.list ds) = some false := by
  show kitB "list" "int" = _
  decide +kernel
theorem isTy_int_t {ds : List PyData} : isTy "int" (.tuple ds) = some false := by
  show kitB "tuple" "int" = _
  decide +kernel
theorem isTy_int_d {es : List (PyData × PyData)} : isTy "int" (.dict es) = some false := by
  show kitB "dict" "int" = _
  decide +kernel
theorem isTy_str_n : isTy "str" .none = some false := by
  show kitB "NoneType" "str" = _
  decide +kernel
theorem isTy_str_b {b : Bool} : isTy "str" (.bool b) = some false := by
  show kitB "bool" "str" = _
  decide +kernel
theorem isTy_str_i {i : Int} : isTy "str" (.int i) = some false := by
  show kitB "int" "str" = _
  decide +kernel
theorem isTy_str_s {x : Str} : isTy "str" (.str x) = some true := by
  show kitB "str" "str" = _
  decide +kernel
theorem isTy_str_l {ds : List PyData} : isTy "str" (.list ds) = some false := by
  show kitB "list" "str" = _
  decide +kernel
theorem isTy_str_t {ds : List PyData} : isTy "str" (.tuple ds) = some false := by
  show kitB "tuple" "str" = _
  decide +kernel
theorem isTy_str_d {es : List (PyData × PyData)} : isTy "str" (.dict es) = some false := by
  show kitB "dict" "str" = _
  decide +kernel
theorem isTy_list_n : isTy "list" .none = some false := by
  show kitB "NoneType" "list" = _
  decide +kernel
theorem isTy_list_b {b : Bool} : isTy "list" (.bool b) = some false := by
  show kitB "bool" "list" = _
  decide +kernel
theorem isTy_list_i {i : Int} : isTy "list" (.int i) = some false := by
  show kitB "int" "list" = _
  decide +kernel
theorem isTy_list_s {x : Str} : isTy "list" (.str x) = some false := by
  show kitB "str" "list" = _
  decide +kernel
theorem isTy_list_l {ds : List PyData} : isTy "list" (.list ds) = some true := by
  show kitB "list" "list" = _
  decide +kernel
theorem isTy_list_t {ds : List PyData} : isTy "list" (.tuple ds) = some false := by
  show kitB "tuple" "list" = _
  decide +kernel
theorem isTy_list_d {es : List (PyData × PyData)} : isTy "list" (.dict es) = some false := by
  show kitB "dict" "list" = _
  decide +kernel
theorem isTy_tuple_n : isTy "tuple" .none = some false := by
  show kitB "NoneType" "tuple" = _
  decide +kernel
theorem isTy_tuple_b {b : Bool} : isTy "tuple" (.bool b) = some false := by
  show kitB "bool" "tuple" = _
  decide +kernel
theorem isTy_tuple_i {i : Int} : isTy "tuple" (.int i) = some false := by
  show kitB "int" "tuple" = _
  decide +kernel
theorem isTy_tuple_s {x : Str} : isTy "tuple" (.str x) = some false := by
  show kitB "str" "tuple" = _
  decide +kernel
theorem isTy_tuple_l {ds : List PyData} : isTy "tuple" (.list ds) = some false := by
  show kitB "list" "tuple" = _
  decide +kernel
theorem isTy_tuple_t {ds : List PyData} : isTy "tuple" (.tuple ds) = some true := by
  show kitB "tuple" "tuple" = _
  decide +kernel
theorem isTy_tuple_d {es : List (PyData × PyData)} : isTy "tuple" (.dict es) = some false := by
  show kitB "dict" "tuple" = _
  decide +kernel
theorem isTy_dict_n : isTy "dict" .none = some false := by
  show kitB "NoneType" "dict" = _
  decide +kernel
theorem isTy_dict_b {b : Bool} : isTy "dict" (.bool b) = some false := by
  show kitB "bool" "dict" = _
  decide +kernel
theorem isTy_dict_i {i : Int} : isTy "dict" (.int i) = some false := by
  show kitB "int" "dict" = _
  decide +kernel
theorem isTy_dict_s {x : Str} : isTy "dict" (.str x) = some false := by
  show kitB "str" "dict" = _
  decide +kernel
theorem isTy_dict_l {ds : List PyData} : isTy "dict" (.list ds) = some false := by
  show kitB "list" "dict" = _
  decide +kernel
theorem isTy_dict_t {ds : List PyData} : isTy "dict" (.tuple ds) = some false := by
  show kitB "tuple" "dict" = _
  decide +kernel
theorem isTy_dict_d {es : List (PyData × PyData)} : isTy "dict" (.dict es) = some true := by
  show kitB "dict" "dict" = _
  decide +kernel
theorem wv0d {d : PyData} {r : DEnv} {Q : R → DEnv → Prop} : wp (mVar 0) (some (.dat d) :: r) Q = Q (.dat d) (some (.dat d) :: r) := by rw [wp_var]; rfl
theorem wv0l {ds : List PyData} {r : DEnv} {Q : R → DEnv → Prop} : wp (mVar 0) (some (.lst ds) :: r) Q = Q (.loc 0) (some (.lst ds) :: r) := by rw [wp_var]; rfl
theorem wv0s {a : Addr} {ns : List Int} {r : DEnv} {Q : R → DEnv → Prop} : wp (mVar 0) (some (.scr a ns) :: r) Q = Q (.loc 0) (some (.scr a ns) :: r) := by rw [wp_var]; rfl
theorem wv1d {a0 : Option T} {d : PyData} {r : DEnv} {Q : R → DEnv → Prop} : wp (mVar 1) (a0 :: some (.dat d) :: r) Q = Q (.dat d) (a0 :: some (.dat d) :: r) := by rw [wp_var]; rfl
theorem wv1l {a0 : Option T} {ds : List PyData} {r : DEnv} {Q : R → DEnv → Prop} : wp (mVar 1) (a0 :: some (.lst ds) :: r) Q = Q (.loc 1) (a0 :: some (.lst ds) :: r) := by rw [wp_var]; rfl
theorem wv1s {a0 : Option T} {a : Addr} {ns : List Int} {r : DEnv} {Q : R → DEnv → Prop} : wp (mVar 1) (a0 :: some (.scr a ns) :: r) Q = Q (.loc 1) (a0 :: some (.scr a ns) :: r) := by rw [wp_var]; rfl
theorem wv2d {a0 a1 : Option T} {d : PyData} {r : DEnv} {Q : R → DEnv → Prop} : wp (mVar 2) (a0 :: a1 :: some (.dat d) :: r) Q = Q (.dat d) (a0 :: a1 :: some (.dat d) :: r) := by rw [wp_var]; rfl
theorem wv2l {a0 a1 : Option T} {ds : List PyData} {r : DEnv} {Q : R → DEnv → Prop} : wp (mVar 2) (a0 :: a1 :: some (.lst ds) :: r) Q = Q (.loc 2) (a0 :: a1 :: some (.lst ds) :: r) := by rw [wp_var]; rfl
theorem wv2s {a0 a1 : Option T} {a : Addr} {ns : List Int} {r : DEnv} {Q : R → DEnv → Prop} : wp (mVar 2) (a0 :: a1 :: some (.scr a ns) :: r) Q = Q (.loc 2) (a0 :: a1 :: some (.scr a ns) :: r) := by rw [wp_var]; rfl
theorem wv3d {a0 a1 a2 : Option T} {d : PyData} {r : DEnv} {Q : R → DEnv → Prop} : wp (mVar 3) (a0 :: a1 :: a2 :: some (.dat d) :: r) Q = Q (.dat d) (a0 :: a1 :: a2 :: some (.dat d) :: r) := by rw [wp_var]; rfl
theorem wv3l {a0 a1 a2 : Option T} {ds : List PyData} {r : DEnv} {Q : R → DEnv → Prop} : wp (mVar 3) (a0 :: a1 :: a2 :: some (.lst ds) :: r) Q = Q (.loc 3) (a0 :: a1 :: a2 :: some (.lst ds) :: r) := by rw [wp_var]; rfl
theorem wv3s {a0 a1 a2 : Option T} {a : Addr} {ns : List Int} {r : DEnv} {Q : R → DEnv → Prop} : wp (mVar 3) (a0 :: a1 :: a2 :: some (.scr a ns) :: r) Q = Q (.loc 3) (a0 :: a1 :: a2 :: some (.scr a ns) :: r) := by rw [wp_var]; rfl
theorem wv4d {a0 a1 a2 a3 : Option T} {d : PyData} {r : DEnv} {Q : R → DEnv → Prop} : wp (mVar 4) (a0 :: a1 :: a2 :: a3 :: some (.dat d) :: r) Q = Q (.dat d) (a0 :: a1 :: a2 :: a3 :: some (.dat d) :: r) := by rw [wp_var]; rfl
theorem wv4l {a0 a1 a2 a3 : Option T} {ds : List PyData} {r : DEnv} {Q : R → DEnv → Prop} : wp (mVar 4) (a0 :: a1 :: a2 :: a3 :: some (.lst ds) :: r) Q = Q (.loc 4) (a0 :: a1 :: a2 :: a3 :: some (.lst ds) :: r) := by rw [wp_var]; rfl
theorem wv4s {a0 a1 a2 a3 : Option T} {a : Addr} {ns : List Int} {r : DEnv} {Q : R → DEnv → Prop} : wp (mVar 4) (a0 :: a1 :: a2 :: a3 :: some (.scr a ns) :: r) Q = Q (.loc 4) (a0 :: a1 :: a2 :: a3 :: some (.scr a ns) :: r) := by rw [wp_var]; rfl
theorem wv5d {a0 a1 a2 a3 a4 : Option T} {d : PyData} {r : DEnv} {Q : R → DEnv → Prop} : wp (mVar 5) (a0 :: a1 :: a2 :: a3 :: a4 :: some (.dat d) :: r) Q = Q (.dat d) (a0 :: a1 :: a2 :: a3 :: a4 :: some (.dat d) :: r) := by rw [wp_var]; rfl
theorem wv5l {a0 a1 a2 a3 a4 : Option T} {ds : List PyData} {r : DEnv} {Q : R → DEnv → Prop} : wp (mVar 5) (a0 :: a1 :: a2 :: a3 :: a4 :: some (.lst ds) :: r) Q = Q (.loc 5) (a0 :: a1 :: a2 :: a3 :: a4 :: some (.lst ds) :: r) := by rw [wp_var]; rfl
theorem wv5s {a0 a1 a2 a3 a4 : Option T} {a : Addr} {ns : List Int} {r : DEnv} {Q : R → DEnv → Prop} : wp (mVar 5) (a0 :: a1 :: a2 :: a3 :: a4 :: some (.scr a ns) :: r) Q = Q (.loc 5) (a0 :: a1 :: a2 :: a3 :: a4 :: some (.scr a ns) :: r) := by rw [wp_var]; rfl
theorem wv6d {a0 a1 a2 a3 a4 a5 : Option T} {d : PyData} {r : DEnv} {Q : R → DEnv → Prop} : wp (mVar 6) (a0 :: a1 :: a2 :: a3 :: a4 :: a5 :: some (.dat d) :: r) Q = Q (.dat d) (a0 :: a1 :: a2 :: a3 :: a4 :: a5 :: some (.dat d) :: r) := by rw [wp_var]; rfl
theorem wv6l {a0 a1 a2 a3 a4 a5 : Option T} {ds : List PyData} {r : DEnv} {Q : R → DEnv → Prop} : wp (mVar 6) (a0 :: a1 :: a2 :: a3 :: a4 :: a5 :: some (.lst ds) :: r) Q = Q (.loc 6) (a0 :: a1 :: a2 :: a3 :: a4 :: a5 :: some (.lst ds) :: r) := by rw [wp_var]; rfl
theorem wv6s {a0 a1 a2 a3 a4 a5 : Option T} {a : Addr} {ns : List Int} {r : DEnv} {Q : R → DEnv → Prop} : wp (mVar 6) (a0 :: a1 :: a2 :: a3 :: a4 :: a5 :: some (.scr a ns) :: r) Q = Q (.loc 6) (a0 :: a1 :: a2 :: a3 :: a4 :: a5 :: some (.scr a ns) :: r) := by rw [wp_var]; rfl
theorem wv7d {a0 a1 a2 a3 a4 a5 a6 : Option T} {d : PyData} {r : DEnv} {Q : R → DEnv → Prop} : wp (mVar 7) (a0 :: a1 :: a2 :: a3 :: a4 :: a5 :: a6 :: some (.dat d) :: r) Q = Q (.dat d) (a0 :: a1 :: a2 :: a3 :: a4 :: a5 :: a6 :: some (.dat d) :: r) := by rw [wp_var]; rfl
theorem wv7l {a0 a1 a2 a3 a4 a5 a6 : Option T} {ds : List PyData} {r : DEnv} {Q : R → DEnv → Prop} : wp (mVar 7) (a0 :: a1 :: a2 :: a3 :: a4 :: a5 :: a6 :: some (.lst ds) :: r) Q = Q (.loc 7) (a0 :: a1 :: a2 :: a3 :: a4 :: a5 :: a6 :: some (.lst ds) :: r) := by rw [wp_var]; rfl
theorem wv7s {a0 a1 a2 a3 a4 a5 a6 : Option T} {a : Addr} {ns : List Int} {r : DEnv} {Q : R → DEnv → Prop} : wp (mVar 7) (a0 :: a1 :: a2 :: a3 :: a4 :: a5 :: a6 :: some (.scr a ns) :: r) Q = Q (.loc 7) (a0 :: a1 :: a2 :: a3 :: a4 :: a5 :: a6 :: some (.scr a ns) :: r) := by rw [wp_var]; rfl
theorem wv8d {a0 a1 a2 a3 a4 a5 a6 a7 : Option T} {d : PyData} {r : DEnv} {Q : R → DEnv → Prop} : wp (mVar 8) (a0 :: a1 :: a2 :: a3 :: a4 :: a5 :: a6 :: a7 :: some (.dat d) :: r) Q = Q (.dat d) (a0 :: a1 :: a2 :: a3 :: a4 :: a5 :: a6 :: a7 :: some (.dat d) :: r) := by rw [wp_var]; rfl
theorem wv8l {a0 a1 a2 a3 a4 a5 a6 a7 : Option T} {ds : List PyData} {r : DEnv} {Q : R → DEnv → Prop} : wp (mVar 8) (a0 :: a1 :: a2 :: a3 :: a4 :: a5 :: a6 :: a7 :: some (.lst ds) :: r) Q = Q (.loc 8) (a0 :: a1 :: a2 :: a3 :: a4 :: a5 :: a6 :: a7 :: some (.lst ds) :: r) := by rw [wp_var]; rfl
theorem wv8s {a0 a1 a2 a3 a4 a5 a6 a7 : Option T} {a : Addr} {ns : List Int} {r : DEnv} {Q : R → DEnv → Prop} : wp (mVar 8) (a0 :: a1 :: a2 :: a3 :: a4 :: a5 :: a6 :: a7 :: some (.scr a ns) :: r) Q = Q (.loc 8) (a0 :: a1 :: a2 :: a3 :: a4 :: a5 :: a6 :: a7 :: some (.scr a ns) :: r) := by rw [wp_var]; rfl
theorem wv9d {a0 a1 a2 a3 a4 a5 a6 a7 a8 : Option T} {d : PyData} {r : DEnv} {Q : R → DEnv → Prop} : wp (mVar 9) (a0 :: a1 :: a2 :: a3 :: a4 :: a5 :: a6 :: a7 :: a8 :: some (.dat d) :: r) Q = Q (.dat d) (a0 :: a1 :: a2 :: a3 :: a4 :: a5 :: a6 :: a7 :: a8 :: some (.dat d) :: r) := by rw [wp_var]; rfl
theorem wv9l {a0 a1 a2 a3 a4 a5 a6 a7 a8 : Option T} {ds : List PyData} {r : DEnv} {Q : R → DEnv → Prop} : wp (mVar 9) (a0 :: a1 :: a2 :: a3 :: a4 :: a5 :: a6 :: a7 :: a8 :: some (.lst ds) :: r) Q = Q (.loc 9) (a0 :: a1 :: a2 :: a3 :: a4 :: a5 :: a6 :: a7 :: a8 :: some (.lst ds) :: r) := by rw [wp_var]; rfl
theorem wv9s {a0 a1 a2 a3 a4 a5 a6 a7 a8 : Option T} {a : Addr} {ns : List Int} {r : DEnv} {Q : R → DEnv → Prop} : wp (mVar 9) (a0 :: a1 :: a2 :: a3 :: a4 :: a5 :: a6 :: a7 :: a8 :: some (.scr a ns) :: r) Q = Q (.loc 9) (a0 :: a1 :: a2 :: a3 :: a4 :: a5 :: a6 :: a7 :: a8 :: some (.scr a ns) :: r) := by rw [wp_var]; rfl
theorem wv10d {a0 a1 a2 a3 a4 a5 a6 a7 a8 a9 : Option T} {d : PyData} {r : DEnv} {Q : R → DEnv → Prop} : wp (mVar 10) (a0 :: a1 :: a2 :: a3 :: a4 :: a5 :: a6 :: a7 :: a8 :: a9 :: some (.dat d) :: r) Q = Q (.dat d) (a0 :: a1 :: a2 :: a3 :: a4 :: a5 :: a6 :: a7 :: a8 :: a9 :: some (.dat d) :: r) := by rw [wp_var]; rfl
theorem wv10l {a0 a1 a2 a3 a4 a5 a6 a7 a8 a9 : Option T} {ds : List PyData} {r : DEnv} {Q : R → DEnv → Prop} : wp (mVar 10) (a0 :: a1 :: a2 :: a3 :: a4 :: a5 :: a6 :: a7 :: a8 :: a9 :: some (.lst ds) :: r) Q = Q (.loc 10) (a0 :: a1 :: a2 :: a3 :: a4 :: a5 :: a6 :: a7 :: a8 :: a9 :: some (.lst ds) :: r) := by rw [wp_var]; rfl
theorem wv10s {a0 a1 a2 a3 a4 a5 a6 a7 a8 a9 : Option T} {a : Addr} {ns : List Int} {r : DEnv} {Q : R → DEnv → Prop} : wp (mVar 10) (a0 :: a1 :: a2 :: a3 :: a4 :: a5 :: a6 :: a7 :: a8 :: a9 :: some (.scr a ns) :: r) Q = Q (.loc 10) (a0 :: a1 :: a2 :: a3 :: a4 :: a5 :: a6 :: a7 :: a8 :: a9 :: some (.scr a ns) :: r) := by rw [wp_var]; rfl
theorem wv11d {a0 a1 a2 a3 a4 a5 a6 a7 a8 a9 a10 : Option T} {d : PyData} {r : DEnv} {Q : R → DEnv → Prop} : wp (mVar 11) (a0 :: a1 :: a2 :: a3 :: a4 :: a5 :: a6 :: a7 :: a8 :: a9 :: a10 :: some (.dat d) :: r) Q = Q (.dat d) (a0 :: a1 :: a2 :: a3 :: a4 :: a5 :: a6 :: a7 :: a8 :: a9 :: a10 :: some (.dat d) :: r) := by rw [wp_var]; rfl
theorem wv11l {a0 a1 a2 a3 a4 a5 a6 a7 a8 a9 a10 : Option T} {ds : List PyData} {r : DEnv} {Q : R → DEnv → Prop} : wp (mVar 11) (a0 :: a1 :: a2 :: a3 :: a4 :: a5 :: a6 :: a7 :: a8 :: a9 :: a10 :: some (.lst ds) :: r) Q = Q (.loc 11) (a0 :: a1 :: a2 :: a3 :: a4 :: a5 :: a6 :: a7 :: a8 :: a9 :: a10 :: some (.lst ds) :: r) := by rw [wp_var]; rfl
theorem wv11s {a0 a1 a2 a3 a4 a5 a6 a7 a8 a9 a10 : Option T} {a : Addr} {ns : List Int} {r : DEnv} {Q : R → DEnv → Prop} : wp (mVar 11) (a0 :: a1 :: a2 :: a3 :: a4 :: a5 :: a6 :: a7 :: a8 :: a9 :: a10 :: some (.scr a ns) :: r) Q = Q (.loc 11) (a0 :: a1 :: a2 :: a3 :: a4 :: a5 :: a6 :: a7 :: a8 :: a9 :: a10 :: some (.scr a ns) :: r) := by rw [wp_var]; rfl
theorem wv12d {a0 a1 a2 a3 a4 a5 a6 a7 a8 a9 a10 a11 : Option T} {d : PyData} {r : DEnv} {Q : R → DEnv → Prop} : wp (mVar 12) (a0 :: a1 :: a2 :: a3 :: a4 :: a5 :: a6 :: a7 :: a8 :: a9 :: a10 :: a11 :: some (.dat d) :: r) Q = Q (.dat d) (a0 :: a1 :: a2 :: a3 :: a4 :: a5 :: a6 :: a7 :: a8 :: a9 :: a10 :: a11 :: some (.dat d) :: r) := by rw [wp_var]; rfl
theorem wv12l {a0 a1 a2 a3 a4 a5 a6 a7 a8 a9 a10 a11 : Option T} {ds : List PyData} {r : DEnv} {Q : R → DEnv → Prop} : wp (mVar 12) (a0 :: a1 :: a2 :: a3 :: a4 :: a5 :: a6 :: a7 :: a8 :: a9 :: a10 :: a11 :: some (.lst ds) :: r) Q = Q (.loc 12) (a0 :: a1 :: a2 :: a3 :: a4 :: a5 :: a6 :: a7 :: a8 :: a9 :: a10 :: a11 :: some (.lst ds) :: r) := by rw [wp_var]; rfl
theorem wv12s {a0 a1 a2 a3 a4 a5 a6 a7 a8 a9 a10 a11 : Option T} {a : Addr} {ns : List Int} {r : DEnv} {Q : R → DEnv → Prop} : wp (mVar 12) (a0 :: a1 :: a2 :: a3 :: a4 :: a5 :: a6 :: a7 :: a8 :: a9 :: a10 :: a11 :: some (.scr a ns) :: r) Q = Q (.loc 12) (a0 :: a1 :: a2 :: a3 :: a4 :: a5 :: a6 :: a7 :: a8 :: a9 :: a10 :: a11 :: some (.scr a ns) :: r) := by rw [wp_var]; rfl
theorem wv13d {a0 a1 a2 a3 a4 a5 a6 a7 a8 a9 a10 a11 a12 : Option T} {d : PyData} {r : DEnv} {Q : R → DEnv → Prop} : wp (mVar 13) (a0 :: a1 :: a2 :: a3 :: a4 :: a5 :: a6 :: a7 :: a8 :: a9 :: a10 :: a11 :: a12 :: some (.dat d) :: r) Q = Q (.dat d) (a0 :: a1 :: a2 :: a3 :: a4 :: a5 :: a6 :: a7 :: a8 :: a9 :: a10 :: a11 :: a12 :: some (.dat d) :: r) := by rw [wp_var]; rfl
theorem wv13l {a0 a1 a2 a3 a4 a5 a6 a7 a8 a9 a10 a11 a12 : Option T} {ds : List PyData} {r : DEnv} {Q : R → DEnv → Prop} : wp (mVar 13) (a0 :: a1 :: a2 :: a3 :: a4 :: a5 :: a6 :: a7 :: a8 :: a9 :: a10 :: a11 :: a12 :: some (.lst ds) :: r) Q = Q (.loc 13) (a0 :: a1 :: a2 :: a3 :: a4 :: a5 :: a6 :: a7 :: a8 :: a9 :: a10 :: a11 :: a12 :: some (.lst ds) :: r) := by rw [wp_var]; rfl
theorem wv13s {a0 a1 a2 a3 a4 a5 a6 a7 a8 a9 a10 a11 a12 : Option T} {a : Addr} {ns : List Int} {r : DEnv} {Q : R → DEnv → Prop} : wp (mVar 13) (a0 :: a1 :: a2 :: a3 :: a4 :: a5 :: a6 :: a7 :: a8 :: a9 :: a10 :: a11 :: a12 :: some (.scr a ns) :: r) Q = Q (.loc 13) (a0 :: a1 :: a2 :: a3 :: a4 :: a5 :: a6 :: a7 :: a8 :: a9 :: a10 :: a11 :: a12 :: some (.scr a ns) :: r) := by rw [wp_var]; rfl
theorem wv14d {a0 a1 a2 a3 a4 a5 a6 a7 a8 a9 a10 a11 a12 a13 : Option T} {d : PyData} {r : DEnv} {Q : R → DEnv → Prop} : wp (mVar 14) (a0 :: a1 :: a2 :: a3 :: a4 :: a5 :: a6 :: a7 :: a8 :: a9 :: a10 :: a11 :: a12 :: a13 :: some (.dat d) :: r) Q = Q (.dat d) (a0 :: a1 :: a2 :: a3 :: a4 :: a5 :: a6 :: a7 :: a8 :: a9 :: a10 :: a11 :: a12 :: a13 :: some (.dat d) :: r) := by rw [wp_var]; rfl
theorem wv14l {a0 a1 a2 a3 a4 a5 a6 a7 a8 a9 a10 a11 a12 a13 : Option T} {ds : List PyData} {r : DEnv} {Q : R → DEnv → Prop} : wp (mVar 14) (a0 :: a1 :: a2 :: a3 :: a4 :: a5 :: a6 :: a7 :: a8 :: a9 :: a10 :: a11 :: a12 :: a13 :: some (.lst ds) :: r) Q = Q (.loc 14) (a0 :: a1 :: a2 :: a3 :: a4 :: a5 :: a6 :: a7 :: a8 :: a9 :: a10 :: a11 :: a12 :: a13 :: some (.lst ds) :: r) := by rw [wp_var]; rfl
theorem wv14s {a0 a1 a2 a3 a4 a5 a6 a7 a8 a9 a10 a11 a12 a13 : Option T} {a : Addr} {ns : List Int} {r : DEnv} {Q : R → DEnv → Prop} : wp (mVar 14) (a0 :: a1 :: a2 :: a3 :: a4 :: a5 :: a6 :: a7 :: a8 :: a9 :: a10 :: a11 :: a12 :: a13 :: some (.scr a ns) :: r) Q = Q (.loc 14) (a0 :: a1 :: a2 :: a3 :: a4 :: a5 :: a6 :: a7 :: a8 :: a9 :: a10 :: a11 :: a12 :: a13 :: some (.scr a ns) :: r) := by rw [wp_var]; rfl
theorem wv15d {a0 a1 a2 a3 a4 a5 a6 a7 a8 a9 a10 a11 a12 a13 a14 : Option T} {d : PyData} {r : DEnv} {Q : R → DEnv → Prop} : wp (mVar 15) (a0 :: a1 :: a2 :: a3 :: a4 :: a5 :: a6 :: a7 :: a8 :: a9 :: a10 :: a11 :: a12 :: a13 :: a14 :: some (.dat d) :: r) Q = Q (.dat d) (a0 :: a1 :: a2 :: a3 :: a4 :: a5 :: a6 :: a7 :: a8 :: a9 :: a10 :: a11 :: a12 :: a13 :: a14 :: some (.dat d) :: r) := by rw [wp_var]; rfl
theorem wv15l {a0 a1 a2 a3 a4 a5 a6 a7 a8 a9 a10 a11 a12 a13 a14 : Option T} {ds : List PyData} {r : DEnv} {Q : R → DEnv → Prop} : wp (mVar 15) (a0 :: a1 :: a2 :: a3 :: a4 :: a5 :: a6 :: a7 :: a8 :: a9 :: a10 :: a11 :: a12 :: a13 :: a14 :: some (.lst ds) :: r) Q = Q (.loc 15) (a0 :: a1 :: a2 :: a3 :: a4 :: a5 :: a6 :: a7 :: a8 :: a9 :: a10 :: a11 :: a12 :: a13 :: a14 :: some (.lst ds) :: r) := by rw [wp_var]; rfl
theorem wv15s {a0 a1 a2 a3 a4 a5 a6 a7 a8 a9 a10 a11 a12 a13 a14 : Option T} {a : Addr} {ns : List Int} {r : DEnv} {Q : R → DEnv → Prop} : wp (mVar 15) (a0 :: a1 :: a2 :: a3 :: a4 :: a5 :: a6 :: a7 :: a8 :: a9 :: a10 :: a11 :: a12 :: a13 :: a14 :: some (.scr a ns) :: r) Q = Q (.loc 15) (a0 :: a1 :: a2 :: a3 :: a4 :: a5 :: a6 :: a7 :: a8 :: a9 :: a10 :: a11 :: a12 :: a13 :: a14 :: some (.scr a ns) :: r) := by rw [wp_var]; rfl
theorem wv16d {a0 a1 a2 a3 a4 a5 a6 a7 a8 a9 a10 a11 a12 a13 a14 a15 : Option T} {d : PyData} {r : DEnv} {Q : R → DEnv → Prop} : wp (mVar 16) (a0 :: a1 :: a2 :: a3 :: a4 :: a5 :: a6 :: a7 :: a8 :: a9 :: a10 :: a11 :: a12 :: a13 :: a14 :: a15 :: some (.dat d) :: r) Q = Q (.dat d) (a0 :: a1 :: a2 :: a3 :: a4 :: a5 :: a6 :: a7 :: a8 :: a9 :: a10 :: a11 :: a12 :: a13 :: a14 :: a15 :: some (.dat d) :: r) := by rw [wp_var]; rfl
theorem wv16l {a0 a1 a2 a3 a4 a5 a6 a7 a8 a9 a10 a11 a12 a13 a14 a15 : Option T} {ds : List PyData} {r : DEnv} {Q : R → DEnv → Prop} : wp (mVar 16) (a0 :: a1 :: a2 :: a3 :: a4 :: a5 :: a6 :: a7 :: a8 :: a9 :: a10 :: a11 :: a12 :: a13 :: a14 :: a15 :: some (.lst ds) :: r) Q = Q (.loc 16) (a0 :: a1 :: a2 :: a3 :: a4 :: a5 :: a6 :: a7 :: a8 :: a9 :: a10 :: a11 :: a12 :: a13 :: a14 :: a15 :: some (.lst ds) :: r) := by rw [wp_var]; rfl
theorem wv16s {a0 a1 a2 a3 a4 a5 a6 a7 a8 a9 a10 a11 a12 a13 a14 a15 : Option T} {a : Addr} {ns : List Int} {r : DEnv} {Q : R → DEnv → Prop} : wp (mVar 16) (a0 :: a1 :: a2 :: a3 :: a4 :: a5 :: a6 :: a7 :: a8 :: a9 :: a10 :: a11 :: a12 :: a13 :: a14 :: a15 :: some (.scr a ns) :: r) Q = Q (.loc 16) (a0 :: a1 :: a2 :: a3 :: a4 :: a5 :: a6 :: a7 :: a8 :: a9 :: a10 :: a11 :: a12 :: a13 :: a14 :: a15 :: some (.scr a ns) :: r) := by rw [wp_var]; rfl
theorem wv17d {a0 a1 a2 a3 a4 a5 a6 a7 a8 a9 a10 a11 a12 a13 a14 a15 a16 : Option T} {d : PyData} {r : DEnv} {Q : R → DEnv → Prop} : wp (mVar 17) (a0 :: a1 :: a2 :: a3 :: a4 :: a5 :: a6 :: a7 :: a8 :: a9 :: a10 :: a11 :: a12 :: a13 :: a14 :: a15 :: a16 :: some (.dat d) :: r) Q = Q (.dat d) (a0 :: a1 :: a2 :: a3 :: a4 :: a5 :: a6 :: a7 :: a8 :: a9 :: a10 :: a11 :: a12 :: a13 :: a14 :: a15 :: a16 :: some (.dat d) :: r) := by rw [wp_var]; rfl
theorem wv17l {a0 a1 a2 a3 a4 a5 a6 a7 a8 a9 a10 a11 a12 a13 a14 a15 a16 : Option T} {ds : List PyData} {r : DEnv} {Q : R → DEnv → Prop} : wp (mVar 17) (a0 :: a1 :: a2 :: a3 :: a4 :: a5 :: a6 :: a7 :: a8 :: a9 :: a10 :: a11 :: a12 :: a13 :: a14 :: a15 :: a16 :: some (.lst ds) :: r) Q = Q (.loc 17) (a0 :: a1 :: a2 :: a3 :: a4 :: a5 :: a6 :: a7 :: a8 :: a9 :: a10 :: a11 :: a12 :: a13 :: a14 :: a15 :: a16 :: some (.lst ds) :: r) := by rw [wp_var]; rfl
theorem wv17s {a0 a1 a2 a3 a4 a5 a6 a7 a8 a9 a10 a11 a12 a13 a14 a15 a16 : Option T} {a : Addr} {ns : List Int} {r : DEnv} {Q : R → DEnv → Prop} : wp (mVar 17) (a0 :: a1 :: a2 :: a3 :: a4 :: a5 :: a6 :: a7 :: a8 :: a9 :: a10 :: a11 :: a12 :: a13 :: a14 :: a15 :: a16 :: some (.scr a ns) :: r) Q = Q (.loc 17) (a0 :: a1 :: a2 :: a3 :: a4 :: a5 :: a6 :: a7 :: a8 :: a9 :: a10 :: a11 :: a12 :: a13 :: a14 :: a15 :: a16 :: some (.scr a ns) :: r) := by rw [wp_var]; rfl
theorem wv18d {a0 a1 a2 a3 a4 a5 a6 a7 a8 a9 a10 a11 a12 a13 a14 a15 a16 a17 : Option T} {d : PyData} {r : DEnv} {Q : R → DEnv → Prop} : wp (mVar 18) (a0 :: a1 :: a2 :: a3 :: a4 :: a5 :: a6 :: a7 :: a8 :: a9 :: a10 :: a11 :: a12 :: a13 :: a14 :: a15 :: a16 :: a17 :: some (.dat d) :: r) Q = Q (.dat d) (a0 :: a1 :: a2 :: a3 :: a4 :: a5 :: a6 :: a7 :: a8 :: a9 :: a10 :: a11 :: a12 :: a13 :: a14 :: a15 :: a16 :: a17 :: some (.dat d) :: r) := by rw [wp_var]; rfl
theorem wv18l {a0 a1 a2 a3 a4 a5 a6 a7 a8 a9 a10 a11 a12 a13 a14 a15 a16 a17 : Option T} {ds : List PyData} {r : DEnv} {Q : R → DEnv → Prop} : wp (mVar 18) (a0 :: a1 :: a2 :: a3 :: a4 :: a5 :: a6 :: a7 :: a8 :: a9 :: a10 :: a11 :: a12 :: a13 :: a14 :: a15 :: a16 :: a17 :: some (.lst ds) :: r) Q = Q (.loc 18) (a0 :: a1 :: a2 :: a3 :: a4 :: a5 :: a6 :: a7 :: a8 :: a9 :: a10 :: a11 :: a12 :: a13 :: a14 :: a15 :: a16 :: a17 :: some (.lst ds) :: r) := by rw [wp_var]; rfl
theorem wv18s {a0 a1 a2 a3 a4 a5 a6 a7 a8 a9 a10 a11 a12 a13 a14 a15 a16 a17 : Option T} {a : Addr} {ns : List Int} {r : DEnv} {Q : R → DEnv → Prop} : wp (mVar 18) (a0 :: a1 :: a2 :: a3 :: a4 :: a5 :: a6 :: a7 :: a8 :: a9 :: a10 :: a11 :: a12 :: a13 :: a14 :: a15 :: a16 :: a17 :: some (.scr a ns) :: r) Q = Q (.loc 18) (a0 :: a1 :: a2 :: a3 :: a4 :: a5 :: a6 :: a7 :: a8 :: a9 :: a10 :: a11 :: a12 :: a13 :: a14 :: a15 :: a16 :: a17 :: some (.scr a ns) :: r) := by rw [wp_var]; rfl
theorem wv19d {a0 a1 a2 a3 a4 a5 a6 a7 a8 a9 a10 a11 a12 a13 a14 a15 a16 a17 a18 : Option T} {d : PyData} {r : DEnv} {Q : R → DEnv → Prop} : wp (mVar 19) (a0 :: a1 :: a2 :: a3 :: a4 :: a5 :: a6 :: a7 :: a8 :: a9 :: a10 :: a11 :: a12 :: a13 :: a14 :: a15 :: a16 :: a17 :: a18 :: some (.dat d) :: r) Q = Q (.dat d) (a0 :: a1 :: a2 :: a3 :: a4 :: a5 :: a6 :: a7 :: a8 :: a9 :: a10 :: a11 :: a12 :: a13 :: a14 :: a15 :: a16 :: a17 :: a18 :: some (.dat d) :: r) := by rw [wp_var]; rfl
theorem wv19l {a0 a1 a2 a3 a4 a5 a6 a7 a8 a9 a10 a11 a12 a13 a14 a15 a16 a17 a18 : Option T} {ds : List PyData} {r : DEnv} {Q : R → DEnv → Prop} : wp (mVar 19) (a0 :: a1 :: a2 :: a3 :: a4 :: a5 :: a6 :: a7 :: a8 :: a9 :: a10 :: a11 :: a12 :: a13 :: a14 :: a15 :: a16 :: a17 :: a18 :: some (.lst ds) :: r) Q = Q (.loc 19) (a0 :: a1 :: a2 :: a3 :: a4 :: a5 :: a6 :: a7 :: a8 :: a9 :: a10 :: a11 :: a12 :: a13 :: a14 :: a15 :: a16 :: a17 :: a18 :: some (.lst ds) :: r) := by rw [wp_var]; rfl
theorem wv19s {a0 a1 a2 a3 a4 a5 a6 a7 a8 a9 a10 a11 a12 a13 a14 a15 a16 a17 a18 : Option T} {a : Addr} {ns : List Int} {r : DEnv} {Q : R → DEnv → Prop} : wp (mVar 19) (a0 :: a1 :: a2 :: a3 :: a4 :: a5 :: a6 :: a7 :: a8 :: a9 :: a10 :: a11 :: a12 :: a13 :: a14 :: a15 :: a16 :: a17 :: a18 :: some (.scr a ns) :: r) Q = Q (.loc 19) (a0 :: a1 :: a2 :: a3 :: a4 :: a5 :: a6 :: a7 :: a8 :: a9 :: a10 :: a11 :: a12 :: a13 :: a14 :: a15 :: a16 :: a17 :: a18 :: some (.scr a ns) :: r) := by rw [wp_var]; rfl
theorem wv20d {a0 a1 a2 a3 a4 a5 a6 a7 a8 a9 a10 a11 a12 a13 a14 a15 a16 a17 a18 a19 : Option T} {d : PyData} {r : DEnv} {Q : R → DEnv → Prop} : wp (mVar 20) (a0 :: a1 :: a2 :: a3 :: a4 :: a5 :: a6 :: a7 :: a8 :: a9 :: a10 :: a11 :: a12 :: a13 :: a14 :: a15 :: a16 :: a17 :: a18 :: a19 :: some (.dat d) :: r) Q = Q (.dat d) (a0 :: a1 :: a2 :: a3 :: a4 :: a5 :: a6 :: a7 :: a8 :: a9 :: a10 :: a11 :: a12 :: a13 :: a14 :: a15 :: a16 :: a17 :: a18 :: a19 :: some (.dat d) :: r) := by rw [wp_var]; rfl
theorem wv20l {a0 a1 a2 a3 a4 a5 a6 a7 a8 a9 a10 a11 a12 a13 a14 a15 a16 a17 a18 a19 : Option T} {ds : List PyData} {r : DEnv} {Q : R → DEnv → Prop} : wp (mVar 20) (a0 :: a1 :: a2 :: a3 :: a4 :: a5 :: a6 :: a7 :: a8 :: a9 :: a10 :: a11 :: a12 :: a13 :: a14 :: a15 :: a16 :: a17 :: a18 :: a19 :: some (.lst ds) :: r) Q = Q (.loc 20) (a0 :: a1 :: a2 :: a3 :: a4 :: a5 :: a6 :: a7 :: a8 :: a9 :: a10 :: a11 :: a12 :: a13 :: a14 :: a15 :: a16 :: a17 :: a18 :: a19 :: some (.lst ds) :: r) := by rw [wp_var]; rfl
theorem wv20s {a0 a1 a2 a3 a4 a5 a6 a7 a8 a9 a10 a11 a12 a13 a14 a15 a16 a17 a18 a19 : Option T} {a : Addr} {ns : List Int} {r : DEnv} {Q : R → DEnv → Prop} : wp (mVar 20) (a0 :: a1 :: a2 :: a3 :: a4 :: a5 :: a6 :: a7 :: a8 :: a9 :: a10 :: a11 :: a12 :: a13 :: a14 :: a15 :: a16 :: a17 :: a18 :: a19 :: some (.scr a ns) :: r) Q = Q (.loc 20) (a0 :: a1 :: a2 :: a3 :: a4 :: a5 :: a6 :: a7 :: a8 :: a9 :: a10 :: a11 :: a12 :: a13 :: a14 :: a15 :: a16 :: a17 :: a18 :: a19 :: some (.scr a ns) :: r) := by rw [wp_var]; rfl
theorem wv21d {a0 a1 a2 a3 a4 a5 a6 a7 a8 a9 a10 a11 a12 a13 a14 a15 a16 a17 a18 a19 a20 : Option T} {d : PyData} {r : DEnv} {Q : R → DEnv → Prop} : wp (mVar 21) (a0 :: a1 :: a2 :: a3 :: a4 :: a5 :: a6 :: a7 :: a8 :: a9 :: a10 :: a11 :: a12 :: a13 :: a14 :: a15 :: a16 :: a17 :: a18 :: a19 :: a20 :: some (.dat d) :: r) Q = Q (.dat d) (a0 :: a1 :: a2 :: a3 :: a4 :: a5 :: a6 :: a7 :: a8 :: a9 :: a10 :: a11 :: a12 :: a13 :: a14 :: a15 :: a16 :: a17 :: a18 :: a19 :: a20 :: some (.dat d) :: r) := by rw [wp_var]; rfl
theorem wv21l {a0 a1 a2 a3 a4 a5 a6 a7 a8 a9 a10 a11 a12 a13 a14 a15 a16 a17 a18 a19 a20 : Option T} {ds : List PyData} {r : DEnv} {Q : R → DEnv → Prop} : wp (mVar 21) (a0 :: a1 :: a2 :: a3 :: a4 :: a5 :: a6 :: a7 :: a8 :: a9 :: a10 :: a11 :: a12 :: a13 :: a14 :: a15 :: a16 :: a17 :: a18 :: a19 :: a20 :: some (.lst ds) :: r) Q = Q (.loc 21) (a0 :: a1 :: a2 :: a3 :: a4 :: a5 :: a6 :: a7 :: a8 :: a9 :: a10 :: a11 :: a12 :: a13 :: a14 :: a15 :: a16 :: a17 :: a18 :: a19 :: a20 :: some (.lst ds) :: r) := by rw [wp_var]; rfl
theorem wv21s {a0 a1 a2 a3 a4 a5 a6 a7 a8 a9 a10 a11 a12 a13 a14 a15 a16 a17 a18 a19 a20 : Option T} {a : Addr} {ns : List Int} {r : DEnv} {Q : R → DEnv → Prop} : wp (mVar 21) (a0 :: a1 :: a2 :: a3 :: a4 :: a5 :: a6 :: a7 :: a8 :: a9 :: a10 :: a11 :: a12 :: a13 :: a14 :: a15 :: a16 :: a17 :: a18 :: a19 :: a20 :: some (.scr a ns) :: r) Q = Q (.loc 21) (a0 :: a1 :: a2 :: a3 :: a4 :: a5 :: a6 :: a7 :: a8 :: a9 :: a10 :: a11 :: a12 :: a13 :: a14 :: a15 :: a16 :: a17 :: a18 :: a19 :: a20 :: some (.scr a ns) :: r) := by rw [wp_var]; rfl
theorem wv22d {a0 a1 a2 a3 a4 a5 a6 a7 a8 a9 a10 a11 a12 a13 a14 a15 a16 a17 a18 a19 a20 a21 : Option T} {d : PyData} {r : DEnv} {Q : R → DEnv → Prop} : wp (mVar 22) (a0 :: a1 :: a2 :: a3 :: a4 :: a5 :: a6 :: a7 :: a8 :: a9 :: a10 :: a11 :: a12 :: a13 :: a14 :: a15 :: a16 :: a17 :: a18 :: a19 :: a20 :: a21 :: some (.dat d) :: r) Q = Q (.dat d) (a0 :: a1 :: a2 :: a3 :: a4 :: a5 :: a6 :: a7 :: a8 :: a9 :: a10 :: a11 :: a12 :: a13 :: a14 :: a15 :: a16 :: a17 :: a18 :: a19 :: a20 :: a21 :: some (.dat d) :: r) := by rw [wp_var]; rfl
theorem wv22l {a0 a1 a2 a3 a4 a5 a6 a7 a8 a9 a10 a11 a12 a13 a14 a15 a16 a17 a18 a19 a20 a21 : Option T} {ds : List PyData} {r : DEnv} {Q : R → DEnv → Prop} : wp (mVar 22) (a0 :: a1 :: a2 :: a3 :: a4 :: a5 :: a6 :: a7 :: a8 :: a9 :: a10 :: a11 :: a12 :: a13 :: a14 :: a15 :: a16 :: a17 :: a18 :: a19 :: a20 :: a21 :: some (.lst ds) :: r) Q = Q (.loc 22) (a0 :: a1 :: a2 :: a3 :: a4 :: a5 :: a6 :: a7 :: a8 :: a9 :: a10 :: a11 :: a12 :: a13 :: a14 :: a15 :: a16 :: a17 :: a18 :: a19 :: a20 :: a21 :: some (.lst ds) :: r) := by rw [wp_var]; rfl
theorem wv22s {a0 a1 a2 a3 a4 a5 a6 a7 a8 a9 a10 a11 a12 a13 a14 a15 a16 a17 a18 a19 a20 a21 : Option T} {a : Addr} {ns : List Int} {r : DEnv} {Q : R → DEnv → Prop} : wp (mVar 22) (a0 :: a1 :: a2 :: a3 :: a4 :: a5 :: a6 :: a7 :: a8 :: a9 :: a10 :: a11 :: a12 :: a13 :: a14 :: a15 :: a16 :: a17 :: a18 :: a19 :: a20 :: a21 :: some (.scr a ns) :: r) Q = Q (.loc 22) (a0 :: a1 :: a2 :: a3 :: a4 :: a5 :: a6 :: a7 :: a8 :: a9 :: a10 :: a11 :: a12 :: a13 :: a14 :: a15 :: a16 :: a17 :: a18 :: a19 :: a20 :: a21 :: some (.scr a ns) :: r) := by rw [wp_var]; rfl
theorem wv23d {a0 a1 a2 a3 a4 a5 a6 a7 a8 a9 a10 a11 a12 a13 a14 a15 a16 a17 a18 a19 a20 a21 a22 : Option T} {d : PyData} {r : DEnv} {Q : R → DEnv → Prop} : wp (mVar 23) (a0 :: a1 :: a2 :: a3 :: a4 :: a5 :: a6 :: a7 :: a8 :: a9 :: a10 :: a11 :: a12 :: a13 :: a14 :: a15 :: a16 :: a17 :: a18 :: a19 :: a20 :: a21 :: a22 :: some (.dat d) :: r) Q = Q (.dat d) (a0 :: a1 :: a2 :: a3 :: a4 :: a5 :: a6 :: a7 :: a8 :: a9 :: a10 :: a11 :: a12 :: a13 :: a14 :: a15 :: a16 :: a17 :: a18 :: a19 :: a20 :: a21 :: a22 :: some (.dat d) :: r) := by rw [wp_var]; rfl
theorem wv23l {a0 a1 a2 a3 a4 a5 a6 a7 a8 a9 a10 a11 a12 a13 a14 a15 a16 a17 a18 a19 a20 a21 a22 : Option T} {ds : List PyData} {r : DEnv} {Q : R → DEnv → Prop} : wp (mVar 23) (a0 :: a1 :: a2 :: a3 :: a4 :: a5 :: a6 :: a7 :: a8 :: a9 :: a10 :: a11 :: a12 :: a13 :: a14 :: a15 :: a16 :: a17 :: a18 :: a19 :: a20 :: a21 :: a22 :: some (.lst ds) :: r) Q = Q (.loc 23) (a0 :: a1 :: a2 :: a3 :: a4 :: a5 :: a6 :: a7 :: a8 :: a9 :: a10 :: a11 :: a12 :: a13 :: a14 :: a15 :: a16 :: a17 :: a18 :: a19 :: a20 :: a21 :: a22 :: some (.lst ds) :: r) := by rw [wp_var]; rfl
theorem wv23s {a0 a1 a2 a3 a4 a5 a6 a7 a8 a9 a10 a11 a12 a13 a14 a15 a16 a17 a18 a19 a20 a21 a22 : Option T} {a : Addr} {ns : List Int} {r : DEnv} {Q : R → DEnv → Prop} : wp (mVar 23) (a0 :: a1 :: a2 :: a3 :: a4 :: a5 :: a6 :: a7 :: a8 :: a9 :: a10 :: a11 :: a12 :: a13 :: a14 :: a15 :: a16 :: a17 :: a18 :: a19 :: a20 :: a21 :: a22 :: some (.scr a ns) :: r) Q = Q (.loc 23) (a0 :: a1 :: a2 :: a3 :: a4 :: a5 :: a6 :: a7 :: a8 :: a9 :: a10 :: a11 :: a12 :: a13 :: a14 :: a15 :: a16 :: a17 :: a18 :: a19 :: a20 :: a21 :: a22 :: some (.scr a ns) :: r) := by rw [wp_var]; rfl
end Sem
-- SemK
/-! SemK: the script read by place; a def that calls itself. -/
namespace Sem
open PySem L2 PyProof.Rows
def mScrLen (i : Nat) : MV := fun ρ => match ρ[i]? with
  | some (some (.scr _ ns)) => some (.int ns.length, ρ)
  | _ => none
def mScrIx (i : Nat) (m : MV) : MV := fun ρ => match ρ[i]? with
  | some (some (.scr _ ns)) => match m ρ with
    | some (.int k, ρ1) => match atI ns k with
      | some z => some (.int z, ρ1)
      | none => none
    | _ => none
  | _ => none
theorem atI_map {α β : Type} {f : α → β} {l : List α} {k : Int} {z : α} (h : atI l k = some z) : atI (l.map f) k = some (f z) := by
  unfold atI at h ⊢
  rw [List.length_map]
  cases hn : ixN l.length k with
  | none => rw [hn] at h; cases h
  | some n =>
    rw [hn] at h
    have h' : l[n]? = some z := h
    show (l.map f)[n]? = _
    rw [List.getElem?_map, h']
    rfl
section
variable {X : Cx} {p p2 pos : Pos} {x : Str}
theorem sv_scrLen (i : Nat) (hm : X.mg "len" = none) (hv : bootBuiltins "len" = some (.builtin "len")) (hN : X.N[i]? = some x := by rfl) (hvis : Vis X.env.scope x := by first | exact Or.inl rfl | exact Or.inr (Or.inl rfl) | exact Or.inr (Or.inr rfl)) (hd : (x == ("__debug__" : Str)) = false := by decide)
    (hcd : (x == ("__classdict__" : Str)) = false := by decide) (hg : Gl X "len" := by rfl)
    (he : starEach [.Name x p2] X.env = [(false, eval (.Name x p2) X.env)] := by rfl) (hpl : (backTo pos (starEach [] X.env)).any (·.1) = false := by rfl) : SV X (.Call (.Name "len" p) [.Name x p2] [] pos) (mScrLen i) :=
  PE.imp (pe_callB call_len_seq hg hm hv (pa_cons (pe_var hN hvis hd hcd) pa_nil he) (by decide) (by decide) he hpl) fun σ H Q h => by
    obtain ⟨F, ρ, α, z, ρ', w, hm, q⟩ := h
    unfold mScrLen at hm
    split at hm
    · rename_i a ns hs
      cases hm
      obtain ⟨v, h1, rfl, h2, _⟩ := w.slot i _ hs
      exact ⟨_, h1, a, ns.map V.int, rfl, .inl (Same.seq w.sub h2), by rw [List.length_map]; exact q _ F H α w Gr.refl (rep_int.mpr rfl)⟩
    · cases hm
theorem sv_scrIx (i : Nat) {b : Expr} {m : MV} (hb : SV X b m) (hN : X.N[i]? = some x := by rfl) (hvis : Vis X.env.scope x := by first | exact Or.inl rfl | exact Or.inr (Or.inl rfl) | exact Or.inr (Or.inr rfl)) (hd : (x == ("__debug__" : Str)) = false := by decide)
    (hcd : (x == ("__classdict__" : Str)) = false := by decide) (hs : PlainIx b := by exact fun _ _ => rfl) : SV X (.Subscript (.Name x p2) b pos) (mScrIx i m) :=
  PE.imp (pe_ix ix_list (pe_var hN hvis hd hcd) hb hs) fun σ H Q h => by
    obtain ⟨F, ρ, α, z, ρ', w, hm, q⟩ := h
    unfold mScrIx at hm
    split at hm
    · rename_i a ns hs
      split at hm
      · rename_i k ρ1 h1
        split at hm
        · rename_i z' hz
          cases hm
          obtain ⟨v, e1, rfl, h2, _⟩ := w.slot i _ hs
          refine ⟨_, e1, F, ρ, α, _, ρ', w, h1, fun v F1 H1 α1 w1 g1 k1 => ?_⟩
          exact ⟨a, ns.map V.int, k, .int z', rfl, rep_int.mp k1, Same.seq w1.sub (Same.seq g1.f h2), atI_map hz, q _ F1 H1 α1 w1 g1 (rep_int.mpr rfl)⟩
        · cases hm
      · cases hm
    · cases hm
end
theorem wp_ScrLen {ρ : DEnv} {i : Nat} {Q : PyData → DEnv → Prop} : wp (mScrLen i) ρ Q = match ρ[i]? with
    | some (some (.scr _ ns)) => Q (.int ns.length) ρ
    | _ => False := by
  unfold wp mScrLen
  cases h : ρ[i]? with
  | none => rfl
  | some o => cases o with
    | none => rfl
    | some t => cases t <;> rfl
theorem wp_ScrIx {ρ : DEnv} {i : Nat} {m : MV} {Q : PyData → DEnv → Prop} : wp (mScrIx i m) ρ Q = match ρ[i]? with
    | some (some (.scr _ ns)) => wp m ρ fun d ρ1 => match d with
      | .int k => optP (atI ns k) fun z => Q (.int z) ρ1
      | _ => False
    | _ => False := by
  unfold wp mScrIx
  cases h : ρ[i]? with
  | none => rfl
  | some o => cases o with
    | none => rfl
    | some t => cases t with
      | scr a ns =>
        simp only
        cases hm : m ρ with
        | none => rfl
        | some y =>
          obtain ⟨d, ρ1⟩ := y
          cases d <;> try rfl
          simp only
          rename_i k
          cases atI ns k <;> rfl
      | _ => rfl
/-! ### a def that calls itself -/
theorem fnOk_none {P : Program} {w : World} {K : PySem.W.Frag} {mg : Str → Option Value} {base : Heap} {f : Addr} {fd : FuncData} {ps : List Str} {n : Nat} : FnOk P w K mg base CX0 0 f fd ps (spD K n fun _ => none) :=
  ⟨fun vs H Q E h => by
      obtain ⟨F, ρ, α, t, ρ', w, ht, hn, hf, q⟩ := h
      exact absurd hf (by simp),
   fun A outer s H args us vs Q E hr he hb hv h => by
      obtain ⟨F, ρ, α, t, ρ', w, ht, hn, hf, q⟩ := h
      exact absurd hf (by simp)⟩
/-- all depths by one step -/
theorem recOk {P : Program} {w : World} {K : PySem.W.Frag} {mg : Str → Option Value} {base : Heap} {x : Str} {f : Addr} {fd : FuncData} {ps : List Str} {M : Nat → DEnv → Option (T × DEnv)} (h0 : ∀ ρ, M 0 ρ = none) (hm : mg x = some (.ref f)) (hk : PySem.W.keepIn K (.ref f) = true) (hb : Binds K fd ps [])
    (step : ∀ n, DefOk P w K mg base x n ps (M n) → FnOk P w K mg base CX0 (n + 1) f fd ps (spD K ps.length (M (n + 1)))) : ∀ n, DefOk P w K mg base x n ps (M n)
  | 0 => ⟨f, fd, by rw [show M 0 = fun _ => none from funext h0]; exact fnOk_none, hm, hk, hb⟩
  | n + 1 => ⟨f, fd, step n (recOk h0 hm hk hb step n), hm, hk, hb⟩
end Sem
-- SemL
namespace Sem
open PySem L2 PyProof.Rows
section
variable {ρ : DEnv} {β : Type} {a0 : Option T}
theorem c_C {d : PyData} {Q : PyData → DEnv → Prop} : wp (mC d) (a0 :: ρ) Q = Q d (a0 :: ρ) := wp_C
theorem c_D {m : MV} {Q : R → DEnv → Prop} : wp (mD m) (a0 :: ρ) Q = wp m (a0 :: ρ) fun d ρ1 => Q (.dat d) ρ1 := wp_D
theorem c_Set {m : ME} {Q : PyData → DEnv → Prop} : wp (mSet m) (a0 :: ρ) Q = wp m (a0 :: ρ) fun r ρ1 => match r with
    | .dat d => Q d ρ1
    | .loc i => match ρ1[i]? with
      | some (some (.lst ds)) => Q (.list ds) (ρ1.set i (some (.dat (.list ds))))
      | _ => False := wp_Set
theorem c_Fr {m : MO} {Q : PyData → DEnv → Prop} : wp (mFr m) (a0 :: ρ) Q = wp m (a0 :: ρ) fun t ρ1 => optP (frT t) fun d => Q d ρ1 := wp_Fr
theorem c_O {m : MV} {Q : T → DEnv → Prop} : wp (mO m) (a0 :: ρ) Q = wp m (a0 :: ρ) fun d ρ1 => Q (.dat d) ρ1 := wp_O
theorem c_Op {g : PyData → PyData → Option PyData} {ma mb : ME} {Q : PyData → DEnv → Prop} : wp (mOp g ma mb) (a0 :: ρ) Q = wp ma (a0 :: ρ) fun r1 ρ1 => wp mb ρ1 fun r2 ρ2 => optP (rd ρ2 r1) fun d => optP (rd ρ2 r2) fun e => optP (g d e) fun z => Q z ρ2 := wp_Op
theorem c_TV {m : MV} {Q : Bool → DEnv → Prop} : wp (mTV m) (a0 :: ρ) Q = wp m (a0 :: ρ) fun d ρ1 => match d with
    | .bool b => Q b ρ1
    | _ => False := wp_TV
theorem c_Chain {g g' : PyData → PyData → Option PyData} {ma mb mc : ME} {Q : PyData → DEnv → Prop} : wp (mChain g g' ma mb mc) (a0 :: ρ) Q = wp ma (a0 :: ρ) fun r1 ρ1 => wp mb ρ1 fun r2 ρ2 => optP (rd ρ2 r1) fun d => optP (rd ρ2 r2) fun e => optP (g d e) fun z => match z with
    | .bool true => wp mc ρ2 fun r3 ρ3 => optP (rd ρ3 r2) fun e' => optP (rd ρ3 r3) fun c => optP (g' e' c) fun z => Q z ρ3
    | .bool false => Q (.bool false) ρ2
    | _ => False := wp_Chain
theorem c_Un {g : PyData → Option PyData} {ma : ME} {Q : PyData → DEnv → Prop} : wp (mUn g ma) (a0 :: ρ) Q = wp ma (a0 :: ρ) fun r1 ρ1 => optP (rd ρ1 r1) fun d => optP (g d) fun z => Q z ρ1 := wp_Un
theorem c_AndT {ma mb : MT} {Q : Bool → DEnv → Prop} : wp (mAndT ma mb) (a0 :: ρ) Q = wp ma (a0 :: ρ) fun b ρ1 => match b with
    | true => wp mb ρ1 Q
    | false => Q false ρ1 := wp_AndT
theorem c_OrT {ma mb : MT} {Q : Bool → DEnv → Prop} : wp (mOrT ma mb) (a0 :: ρ) Q = wp ma (a0 :: ρ) fun b ρ1 => match b with
    | true => Q true ρ1
    | false => wp mb ρ1 Q := wp_OrT
theorem c_NotT {ma : MT} {Q : Bool → DEnv → Prop} : wp (mNotT ma) (a0 :: ρ) Q = wp ma (a0 :: ρ) fun b ρ1 => Q (!b) ρ1 := wp_NotT
theorem c_AndV {ma mb : MV} {Q : PyData → DEnv → Prop} : wp (mAndV ma mb) (a0 :: ρ) Q = wp ma (a0 :: ρ) fun d ρ1 => match d with
    | .bool true => wp mb ρ1 Q
    | .bool false => Q (.bool false) ρ1
    | _ => False := wp_AndV
theorem c_OrV {ma mb : MV} {Q : PyData → DEnv → Prop} : wp (mOrV ma mb) (a0 :: ρ) Q = wp ma (a0 :: ρ) fun d ρ1 => match d with
    | .bool true => Q (.bool true) ρ1
    | .bool false => wp mb ρ1 Q
    | _ => False := wp_OrV
theorem c_NotV {ma : MV} {Q : PyData → DEnv → Prop} : wp (mNotV ma) (a0 :: ρ) Q = wp ma (a0 :: ρ) fun d ρ1 => match d with
    | .bool b => Q (.bool (!b)) ρ1
    | _ => False := wp_NotV
theorem c_If {mt : MT} {ma mb : DEnv → Option (β × DEnv)} {Q : β → DEnv → Prop} : wp (mIf mt ma mb) (a0 :: ρ) Q = wp mt (a0 :: ρ) fun b ρ1 => match b with
    | true => wp ma ρ1 Q
    | false => wp mb ρ1 Q := wp_If
theorem c_A0 {Q : List R → DEnv → Prop} : wp mA0 (a0 :: ρ) Q = Q [] (a0 :: ρ) := wp_A0
theorem c_A1 {m : ME} {ma : MA} {Q : List R → DEnv → Prop} : wp (mA1 m ma) (a0 :: ρ) Q = wp m (a0 :: ρ) fun r ρ1 => wp ma ρ1 fun rs ρ2 => Q (r :: rs) ρ2 := wp_A1
theorem c_L0 {Q : List PyData → DEnv → Prop} : wp mL0 (a0 :: ρ) Q = Q [] (a0 :: ρ) := wp_L0
theorem c_L1 {m : MV} {ma : ML} {Q : List PyData → DEnv → Prop} : wp (mL1 m ma) (a0 :: ρ) Q = wp m (a0 :: ρ) fun r ρ1 => wp ma ρ1 fun rs ρ2 => Q (r :: rs) ρ2 := wp_L1
theorem c_Tup {ma : ML} {Q : PyData → DEnv → Prop} : wp (mTup ma) (a0 :: ρ) Q = wp ma (a0 :: ρ) fun ds ρ1 => small ds.length = true ∧ Q (.tuple ds) ρ1 := wp_Tup
theorem c_Lst {ma : ML} {Q : T → DEnv → Prop} : wp (mLst ma) (a0 :: ρ) Q = wp ma (a0 :: ρ) fun ds ρ1 => small ds.length = true ∧ Q (.lst ds) ρ1 := wp_Lst
theorem c_Call {g : List PyData → Option PyData} {ma : MA} {Q : PyData → DEnv → Prop} : wp (mCall g ma) (a0 :: ρ) Q = wp ma (a0 :: ρ) fun rs ρ1 => optP (rdL ρ1 rs) fun ds => optP (g ds) fun z => Q z ρ1 := wp_Call
theorem c_Nx {Q : Out → DEnv → Prop} : wp mNx (a0 :: ρ) Q = Q .nx (a0 :: ρ) := wp_Nx
theorem c_Bk {Q : Out → DEnv → Prop} : wp mBk (a0 :: ρ) Q = Q .bk (a0 :: ρ) := wp_Bk
theorem c_Ct {Q : Out → DEnv → Prop} : wp mCt (a0 :: ρ) Q = Q .ct (a0 :: ρ) := wp_Ct
theorem c_No {Q : Out → DEnv → Prop} : wp mNo (a0 :: ρ) Q = False := wp_No
theorem c_Seq {m1 m2 : MS} {Q : Out → DEnv → Prop} : wp (mSeq m1 m2) (a0 :: ρ) Q = wp m1 (a0 :: ρ) fun o ρ1 => match o with
    | .nx => wp m2 ρ1 Q
    | .ret t => Q (.ret t) ρ1
    | .bk => Q .bk ρ1
    | .ct => Q .ct ρ1 := wp_Seq
theorem c_Asg {i : Nat} {m : MV} {Q : Out → DEnv → Prop} : wp (mAsg i m) (a0 :: ρ) Q = wp m (a0 :: ρ) fun d ρ1 => Q .nx (ρ1.set i (some (.dat d))) := wp_Asg
theorem c_AsgO {i : Nat} {m : MO} {Q : Out → DEnv → Prop} : wp (mAsgO i m) (a0 :: ρ) Q = wp m (a0 :: ρ) fun d ρ1 => Q .nx (ρ1.set i (some d)) := wp_AsgO
theorem c_AsgG {g : PyData → DEnv → Option DEnv} {m : MV} {Q : Out → DEnv → Prop} : wp (mAsgG g m) (a0 :: ρ) Q = wp m (a0 :: ρ) fun d ρ1 => optP (g d ρ1) fun ρ2 => Q .nx ρ2 := wp_AsgG
theorem c_Par {i j : Nat} {m : ML} {Q : Out → DEnv → Prop} : wp (mPar i j m) (a0 :: ρ) Q = wp m (a0 :: ρ) fun ds ρ1 => match ds with
    | [d, e] => Q .nx ((ρ1.set i (some (.dat d))).set j (some (.dat e)))
    | _ => False := wp_Par
theorem c_Par3 {i j l : Nat} {m : ML} {Q : Out → DEnv → Prop} : wp (mPar3 i j l m) (a0 :: ρ) Q = wp m (a0 :: ρ) fun ds ρ1 => match ds with
    | [d, e, f] => Q .nx (((ρ1.set i (some (.dat d))).set j (some (.dat e))).set l (some (.dat f)))
    | _ => False := wp_Par3
theorem c_SetIx {mo mi : ME} {m : MV} {Q : Out → DEnv → Prop} : wp (mSetIx mo mi m) (a0 :: ρ) Q = wp m (a0 :: ρ) fun d ρ1 => wp mo ρ1 fun r ρ2 => optP (asLoc r) fun j => wp mi ρ2 fun r2 ρ3 => optP (asInt r2) fun k => optP (lstAt ρ3 j) fun ds => optP (ixN ds.length k) fun n => Q .nx (ρ3.set j (some (.lst (ds.set n d)))) := wp_SetIx
theorem c_Mt {g : List PyData → List PyData → Option (PyData × List PyData)} {mo : ME} {ma : ML} {Q : PyData → DEnv → Prop} : wp (mMt g mo ma) (a0 :: ρ) Q = wp mo (a0 :: ρ) fun r ρ1 => optP (asLoc r) fun j => optP (lstAt ρ1 j) fun _ => wp ma ρ1 fun as ρ2 => optP (lstAt ρ2 j) fun ds => optP (g ds as) fun z => Q z.1 (ρ2.set j (some (.lst z.2))) := wp_Mt
theorem c_Drop {m : MV} {Q : Out → DEnv → Prop} : wp (mDrop m) (a0 :: ρ) Q = wp m (a0 :: ρ) fun _ ρ1 => Q .nx ρ1 := wp_Drop
theorem c_Ret {m : MO} {Q : Out → DEnv → Prop} : wp (mRet m) (a0 :: ρ) Q = wp m (a0 :: ρ) fun t ρ1 => Q (.ret t) ρ1 := wp_Ret
theorem c_RetN {Q : Out → DEnv → Prop} : wp mRetN (a0 :: ρ) Q = Q (.ret (.dat .none)) (a0 :: ρ) := wp_RetN
theorem c_RetV {rts : List Nat} {i : Nat} {Q : Out → DEnv → Prop} : wp (mRetV rts i) (a0 :: ρ) Q = match (a0 :: ρ)[i]? with
    | some (some t) => rts.contains i = false ∧ Q (.ret t) ((a0 :: ρ).set i none)
    | _ => False := wp_RetV
theorem c_Tru {m : ME} {Q : Bool → DEnv → Prop} : wp (mTru m) (a0 :: ρ) Q = wp m (a0 :: ρ) fun r ρ1 => optP (rd ρ1 r) fun d => optP (gTru d) fun b => Q b ρ1 := wp_Tru
theorem c_Isi {T : String} {m : ME} {Q : PyData → DEnv → Prop} : wp (mIsi T m) (a0 :: ρ) Q = wp m (a0 :: ρ) fun r ρ1 => optP (rd ρ1 r) fun d => optP (isTy T d) fun b => Q (.bool b) ρ1 := wp_Isi
theorem c_Part {m : MV} {Q : Option Int → DEnv → Prop} : wp (mPart m) (a0 :: ρ) Q = wp m (a0 :: ρ) fun d ρ1 => match d with
    | .int i => Q (some i) ρ1
    | _ => False := wp_Part
theorem c_NoPart {Q : Option Int → DEnv → Prop} : wp mNoPart (a0 :: ρ) Q = Q none (a0 :: ρ) := wp_NoPart
theorem c_Sl {m : ME} {ml mh : DEnv → Option (Option Int × DEnv)} {Q : PyData → DEnv → Prop} : wp (mSl m ml mh) (a0 :: ρ) Q = wp m (a0 :: ρ) fun r ρ1 => wp ml ρ1 fun lo ρ2 => wp mh ρ2 fun hi ρ3 => optP (rd ρ3 r) fun d => optP (gSl d lo hi) fun z => Q z ρ3 := wp_Sl
theorem c_MS {g : List PyData → Option PyData} {mo : ME} {ma : MA} {Q : PyData → DEnv → Prop} : wp (mMS g mo ma) (a0 :: ρ) Q = wp mo (a0 :: ρ) fun r ρ1 => optP (asStr r) fun a => wp ma ρ1 fun rs ρ2 => optP (rdL ρ2 rs) fun ds => optP (g (.str a :: ds)) fun z => Q z ρ2 := wp_MS
theorem c_Dict0 {Q : PyData → DEnv → Prop} : wp mDict0 (a0 :: ρ) Q = Q (.dict []) (a0 :: ρ) := wp_Dict0
theorem c_SeqI {m : MV} {Q : List PyData → DEnv → Prop} : wp (mSeqI m) (a0 :: ρ) Q = wp m (a0 :: ρ) fun d ρ1 => optP (seqOf d) fun ds => Q ds ρ1 := wp_SeqI
theorem c_StrI {m : MV} {Q : List PyData → DEnv → Prop} : wp (mStrI m) (a0 :: ρ) Q = wp m (a0 :: ρ) fun d ρ1 => match d with
    | .str z => Q (signsOf z) ρ1
    | _ => False := wp_StrI
theorem c_Rng1 {ma : ML} {Q : List PyData → DEnv → Prop} : wp (mRng1 ma) (a0 :: ρ) Q = wp ma (a0 :: ρ) fun ds ρ1 => match ds with
    | [.int j] => inRange j = true ∧ Q (rngD 0 j.toNat) ρ1
    | _ => False := wp_Rng1
theorem c_For {mi : ML} {g : PyData → DEnv → Option DEnv} {mb : MS} {Q : Out → DEnv → Prop} : wp (mFor mi g mb) (a0 :: ρ) Q = wp mi (a0 :: ρ) fun ds ρ1 => wp (mForL g mb ds) ρ1 Q := wp_For
theorem c_ForNil {g : PyData → DEnv → Option DEnv} {mb : MS} {Q : Out → DEnv → Prop} : wp (mForL g mb []) (a0 :: ρ) Q = Q .nx (a0 :: ρ) := wp_ForNil
theorem c_ForCons {g : PyData → DEnv → Option DEnv} {mb : MS} {d : PyData} {ds : List PyData} {Q : Out → DEnv → Prop} : wp (mForL g mb (d :: ds)) (a0 :: ρ) Q = optP (g d (a0 :: ρ)) fun ρ1 => wp mb ρ1 fun o ρ2 => match o with
    | .nx => wp (mForL g mb ds) ρ2 Q
    | .ct => wp (mForL g mb ds) ρ2 Q
    | .bk => Q .nx ρ2
    | .ret t => Q (.ret t) ρ2 := wp_ForCons
theorem c_Lc {vs : List Nat} {mi : ML} {g : PyData → DEnv → Option DEnv} {mt : MT} {me : MV} {Q : T → DEnv → Prop} : wp (mLc vs mi g mt me) (a0 :: ρ) Q = wp mi (a0 :: ρ) fun ds ρ1 => small ds.length = true ∧ wp (mLcL vs g mt me ds) (wipeD ρ1 vs) fun zs ρ2 => Q (.lst zs) ρ2 := wp_Lc
theorem c_LcNil {vs : List Nat} {g : PyData → DEnv → Option DEnv} {mt : MT} {me : MV} {Q : List PyData → DEnv → Prop} : wp (mLcL vs g mt me []) (a0 :: ρ) Q = Q [] (a0 :: ρ) := wp_LcNil
theorem c_LcCons {vs : List Nat} {g : PyData → DEnv → Option DEnv} {mt : MT} {me : MV} {d : PyData} {ds : List PyData} {Q : List PyData → DEnv → Prop} : wp (mLcL vs g mt me (d :: ds)) (a0 :: ρ) Q = optP (g d (a0 :: ρ)) fun ρ1 => wp mt ρ1 fun b ρ2 => match b with
    | true => wp me ρ2 fun z ρ3 => wp (mLcL vs g mt me ds) (wipeD ρ3 vs) fun zs ρ4 => Q (z :: zs) ρ4
    | false => wp (mLcL vs g mt me ds) (wipeD ρ2 vs) Q := wp_LcCons
theorem c_Yes {Q : Bool → DEnv → Prop} : wp mYes (a0 :: ρ) Q = Q true (a0 :: ρ) := wp_Yes
theorem c_Cl {f : DEnv → Option (T × DEnv)} {ma : MA} {Q : T → DEnv → Prop} : wp (mCl f ma) (a0 :: ρ) Q = wp ma (a0 :: ρ) fun rs ρ1 => distinct rs = true ∧ optP (argsT ρ1 rs) fun ρc => wp f ρc fun t ρc' => Q t (putBack rs ρc' ρ1) := wp_Cl
theorem c_Fn {n N : Nat} {rts : List Nat} {mb : MS} {Q : T → DEnv → Prop} : wp (mFn n N rts mb) (a0 :: ρ) Q = (okP n rts (a0 :: ρ) = true ∧ wp mb ((a0 :: ρ) ++ List.replicate (N - n) none) fun o ρ2 => match o with
    | .ret t => Q t (fin n rts ρ2)
    | .nx => Q (.dat .none) (fin n rts ρ2)
    | _ => False) := wp_Fn
theorem c_ScrLen {i : Nat} {Q : PyData → DEnv → Prop} : wp (mScrLen i) (a0 :: ρ) Q = match (a0 :: ρ)[i]? with
    | some (some (.scr _ ns)) => Q (.int ns.length) (a0 :: ρ)
    | _ => False := wp_ScrLen
theorem c_ScrIx {i : Nat} {m : MV} {Q : PyData → DEnv → Prop} : wp (mScrIx i m) (a0 :: ρ) Q = match (a0 :: ρ)[i]? with
    | some (some (.scr _ ns)) => wp m (a0 :: ρ) fun d ρ1 => match d with
      | .int k => optP (atI ns k) fun z => Q (.int z) ρ1
      | _ => False
    | _ => False := wp_ScrIx
end
end Sem
-- SemM
/-! SemM: the ends. -/
namespace Sem
open PySem L2 PyProof.Rows
theorem ConstOk.tup {K : PySem.W.Frag} {mg : Str → Option Value} {x : Str} {a : Addr} {ds : List PyData} {vs : List V} {its : Array Value} {n : Nat} {od : Option Addr} {sl : Array (Option Value)} (h : mg x = some (.ref a)) (hl : K.lookup a = some ⟨.type "tuple", od, .seq its n, sl⟩) (hz : its.size ≤ sizeLine)
    (hv : Vals vs its.toList) (hr : ∀ F, RepL K F ds vs) : ConstOk K mg x (.tuple ds) := ⟨.ref a, _, fun F => rep_tuple.mpr ⟨a, vs, rfl, .inr ⟨_, its, n, hl, rfl, rfl, hz, hv⟩, hr F⟩, h, rfl⟩
theorem spD.scr {K : PySem.W.Frag} {H : Hp} {a : Addr} {ns : List Int} {f : DEnv → Option (T × DEnv)} {t : T} {ρ' : DEnv} {Q : VK} {E : XK} (hS : SqL K H a (ns.map V.int)) (hm : f [some (.scr a ns)] = some (t, ρ')) (q : ∀ (F : Hp) (v : V) (B : List Addr) {H' : Hp}, Own K F H' t v B → Q v H') : spD K 1 f [.ref a] H Q E := by
  refine ⟨H, [some (.scr a ns)], fun _ => [], t, ρ', ⟨Same.refl H, rfl, fun i t h => ?_, fun i p h => (by cases h), fun i j p h => (by cases h), fun i p h => (by cases h)⟩, fun i p h => (by cases h), rfl, hm, fun v F' H' α' B w g o fr => q F' v B o⟩
  cases i with
  | zero =>
    cases h
    exact ⟨.ref a, rfl, rfl, hS, rfl⟩
  | succ i => simp at h
end Sem
-- NumA
/-! NumA: fractions in lowest terms, sizes in bits. Plain Lean. -/
namespace Num
open PySem L2 Sem

/-! ### sizes -/
abbrev Bd (k : Nat) (i : Int) : Prop := i.natAbs < 2 ^ k
theorem Bd.mono {k l : Nat} {i : Int} (h : Bd k i) (e : k ≤ l) : Bd l i := Nat.lt_of_lt_of_le h (Nat.pow_le_pow_right (by decide) e)
theorem Bd.mul {k l : Nat} {i j : Int} (h : Bd k i) (h' : Bd l j) : Bd (k + l) (i * j) := by
  unfold Bd at *
  rw [Int.natAbs_mul, Nat.pow_add]
  exact Nat.mul_lt_mul'' h h'
theorem Bd.add {k l : Nat} {i j : Int} (h : Bd k i) (h' : Bd l j) : Bd (max k l + 1) (i + j) := by
  have h1 := h.mono (Nat.le_max_left k l)
  have h2 := h'.mono (Nat.le_max_right k l)
  unfold Bd at *
  rw [Nat.pow_succ]
  omega
theorem Bd.neg {k : Nat} {i : Int} (h : Bd k i) : Bd k (-i) := by
  unfold Bd at *
  rw [Int.natAbs_neg]
  exact h
theorem Bd.sub {k l : Nat} {i j : Int} (h : Bd k i) (h' : Bd l j) : Bd (max k l + 1) (i - j) := by
  rw [Int.sub_eq_add_neg]
  exact h.add h'.neg
theorem Bd.le {k : Nat} {i j : Int} (h : Bd k j) (e : i.natAbs ≤ j.natAbs) : Bd k i := Nat.lt_of_le_of_lt e h
theorem Bd.log {k : Nat} {i : Int} (h : Bd k i) (h0 : 0 < k) : i.natAbs.log2 < k := PySem.Flt.log2_lt_of h0 h
theorem log_le {k : Nat} {i : Int} (h : Bd k i) : i.natAbs.log2 ≤ k := by
  by_cases h0 : k = 0
  · subst h0
    have : i.natAbs = 0 := by
      unfold Bd at h
      omega
    rw [this]
    decide
  · exact Nat.le_of_lt (h.log (by omega))
theorem mulOk_of {k l : Nat} {i j : Int} (h : Bd k i) (h' : Bd l j) (e : k + l < 100000000) : mulOk i j = true := by
  unfold mulOk
  have h1 := log_le h
  have h2 := log_le h'
  exact decide_eq_true (by omega)
theorem divOk_of {k : Nat} {i j : Int} (h : j ≠ 0) (h' : Bd k j) (e : k < 9000) : divOk i j = true := by
  unfold divOk
  have h1 := log_le h'
  rw [Bool.and_eq_true]
  exact ⟨decide_eq_true h, by rw [PyProof.noPylong_of_log2 (by omega)]; rfl⟩

/-! ### fractions in lowest terms -/
abbrev Fr := Int × Int
def Low (x : Fr) : Prop := 0 < x.2 ∧ Int.gcd x.1 x.2 = 1
def ratI (p q : Int) : Fr := let g : Int := if q < 0 then -((Int.gcd p q : Nat) : Int) else ((Int.gcd p q : Nat) : Int); (p.fdiv g, q.fdiv g)
theorem gcd_pos {p q : Int} (h : q ≠ 0) : 0 < Int.gcd p q := by
  rcases Nat.eq_zero_or_pos (Int.gcd p q) with e | e
  · exact absurd (Int.gcd_eq_zero_iff.mp e).2 h
  · exact e
theorem gcd_le {p q : Int} (h : q ≠ 0) : Int.gcd p q ≤ q.natAbs := Nat.le_of_dvd (by omega) (Nat.gcd_dvd_right p.natAbs q.natAbs)
/-- q < 0 turns both -/
theorem ratI_parts {p q : Int} (h : q ≠ 0) : ∃ s : Int, s ≠ 0 ∧ s.natAbs = Int.gcd p q ∧ p = (ratI p q).1 * s ∧ q = (ratI p q).2 * s ∧ 0 < (ratI p q).2 := by
  have hg := gcd_pos (p := p) h
  obtain ⟨a, ha⟩ : ((Int.gcd p q : Nat) : Int) ∣ p := Int.gcd_dvd_left ..
  obtain ⟨b, hb⟩ : ((Int.gcd p q : Nat) : Int) ∣ q := Int.gcd_dvd_right ..
  generalize hgg : Int.gcd p q = g at *
  have g0 : (g : Int) ≠ 0 := by omega
  by_cases hq : q < 0
  · refine ⟨-(g : Int), by omega, by omega, ?_⟩
    have e1 : (ratI p q).1 = -a := by
      unfold ratI
      simp only [hgg, if_pos hq]
      rw [ha, show (g : Int) * a = -a * -(g : Int) by rw [Int.neg_mul_neg, Int.mul_comm], Int.mul_fdiv_cancel _ (by omega)]
    have e2 : (ratI p q).2 = -b := by
      unfold ratI
      simp only [hgg, if_pos hq]
      rw [hb, show (g : Int) * b = -b * -(g : Int) by rw [Int.neg_mul_neg, Int.mul_comm], Int.mul_fdiv_cancel _ (by omega)]
    rw [e1, e2]
    refine ⟨by rw [Int.neg_mul_neg, Int.mul_comm]; exact ha, by rw [Int.neg_mul_neg, Int.mul_comm]; exact hb, ?_⟩
    rcases Int.lt_or_le 0 (-b) with z | z
    · exact z
    · have : 0 ≤ (g : Int) * b := Int.mul_nonneg (by omega) (by omega)
      omega
  · refine ⟨(g : Int), g0, by omega, ?_⟩
    have e1 : (ratI p q).1 = a := by
      unfold ratI
      simp only [hgg, if_neg hq]
      rw [ha, Int.mul_comm, Int.mul_fdiv_cancel _ g0]
    have e2 : (ratI p q).2 = b := by
      unfold ratI
      simp only [hgg, if_neg hq]
      rw [hb, Int.mul_comm, Int.mul_fdiv_cancel _ g0]
    rw [e1, e2]
    refine ⟨by rw [Int.mul_comm]; exact ha, by rw [Int.mul_comm]; exact hb, ?_⟩
    rcases Int.lt_or_le 0 b with z | z
    · exact z
    · have : (g : Int) * b ≤ 0 := Int.mul_nonpos_of_nonneg_of_nonpos (by omega) z
      omega
theorem ratI_low {p q : Int} (h : q ≠ 0) : Low (ratI p q) := by
  obtain ⟨s, h0, hs, h1, h2, h3⟩ := ratI_parts (p := p) h
  refine ⟨h3, ?_⟩
  have e : Int.gcd p q = Int.gcd (ratI p q).1 (ratI p q).2 * s.natAbs := by
    have := Int.gcd_mul_right (ratI p q).1 s (ratI p q).2
    rw [← h1, ← h2] at this
    exact this
  rw [hs] at e
  have hg := gcd_pos (p := p) h
  have : Int.gcd (ratI p q).1 (ratI p q).2 * Int.gcd p q = 1 * Int.gcd p q := by omega
  exact Nat.eq_of_mul_eq_mul_right hg this
theorem ratI_cross {p q : Int} (h : q ≠ 0) : p * (ratI p q).2 = (ratI p q).1 * q := by
  obtain ⟨s, h0, hs, h1, h2, h3⟩ := ratI_parts (p := p) h
  conv => lhs; lhs; rw [h1]
  conv => rhs; rhs; rw [h2]
  rw [Int.mul_assoc, Int.mul_comm s]
theorem ratI_small {p q : Int} (h : q ≠ 0) : (ratI p q).1.natAbs ≤ p.natAbs ∧ (ratI p q).2.natAbs ≤ q.natAbs := by
  obtain ⟨s, h0, hs, h1, h2, h3⟩ := ratI_parts (p := p) h
  have hsp : 0 < s.natAbs := by omega
  constructor
  · conv => rhs; rw [h1]
    rw [Int.natAbs_mul]
    exact Nat.le_mul_of_pos_right _ hsp
  · conv => rhs; rw [h2]
    rw [Int.natAbs_mul]
    exact Nat.le_mul_of_pos_right _ hsp
theorem dvd_cop {a b c : Int} (h : a ∣ b * c) (g : Int.gcd a b = 1) : a ∣ c := by
  rw [← Int.natAbs_dvd_natAbs] at h ⊢
  rw [Int.natAbs_mul] at h
  exact Nat.Coprime.dvd_of_dvd_mul_left g h
theorem low_uniq {x y : Fr} (hx : Low x) (hy : Low y) (e : x.1 * y.2 = y.1 * x.2) : x = y := by
  obtain ⟨a, b⟩ := x
  obtain ⟨c, d⟩ := y
  obtain ⟨hb, hab⟩ := hx
  obtain ⟨hd, hcd⟩ := hy
  simp only at *
  have d1 : b ∣ d := by
    have : b ∣ a * d := ⟨c, by rw [e, Int.mul_comm]⟩
    exact dvd_cop this (by rw [Int.gcd_comm]; exact hab)
  have d2 : d ∣ b := by
    have : d ∣ c * b := ⟨a, by rw [← e, Int.mul_comm]⟩
    exact dvd_cop this (by rw [Int.gcd_comm]; exact hcd)
  have eb : b = d := Int.dvd_antisymm (by omega) (by omega) d1 d2
  subst eb
  have ea : a = c := Int.eq_of_mul_eq_mul_right (by omega) e
  rw [ea]
/-- a fraction with its size -/
def FB (k : Nat) (x : Fr) : Prop := Low x ∧ Bd k x.1 ∧ Bd k x.2
theorem FB.ne {k : Nat} {x : Fr} (h : FB k x) : x.2 ≠ 0 := by have := h.1.1; omega
theorem FB.mono {k l : Nat} {x : Fr} (h : FB k x) (e : k ≤ l) : FB l x := ⟨h.1, h.2.1.mono e, h.2.2.mono e⟩
theorem FB.rat {k : Nat} {p q : Int} (hp : Bd k p) (hq : Bd k q) (h : q ≠ 0) : FB k (ratI p q) := ⟨ratI_low h, hp.le (ratI_small h).1, hq.le (ratI_small h).2⟩
def addF (x y : Fr) : Fr := ratI (x.1 * y.2 + y.1 * x.2) (x.2 * y.2)
def subF (x y : Fr) : Fr := ratI (x.1 * y.2 - y.1 * x.2) (x.2 * y.2)
def mulF (x y : Fr) : Fr := ratI (x.1 * y.1) (x.2 * y.2)
def divF (x y : Fr) : Fr := ratI (x.1 * y.2) (x.2 * y.1)
def negF (x : Fr) : Fr := (-x.1, x.2)
theorem mul_ne {a b : Int} (h : a ≠ 0) (h' : b ≠ 0) : a * b ≠ 0 := Int.mul_ne_zero h h'
theorem FB.add {k l : Nat} {x y : Fr} (hx : FB k x) (hy : FB l y) : FB (k + l + 1) (addF x y) := by
  refine FB.rat (((hx.2.1.mul hy.2.2).add (hy.2.1.mul hx.2.2)).mono ?_) ((hx.2.2.mul hy.2.2).mono (by omega)) (mul_ne hx.ne hy.ne)
  have : max (k + l) (l + k) = k + l := by omega
  omega
theorem FB.sub {k l : Nat} {x y : Fr} (hx : FB k x) (hy : FB l y) : FB (k + l + 1) (subF x y) := by
  refine FB.rat (((hx.2.1.mul hy.2.2).sub (hy.2.1.mul hx.2.2)).mono ?_) ((hx.2.2.mul hy.2.2).mono (by omega)) (mul_ne hx.ne hy.ne)
  have : max (k + l) (l + k) = k + l := by omega
  omega
theorem FB.mul {k l : Nat} {x y : Fr} (hx : FB k x) (hy : FB l y) : FB (k + l) (mulF x y) := FB.rat (hx.2.1.mul hy.2.1) (hx.2.2.mul hy.2.2) (mul_ne hx.ne hy.ne)
theorem FB.div {k l : Nat} {x y : Fr} (hx : FB k x) (hy : FB l y) (h : y.1 ≠ 0) : FB (k + l) (divF x y) := FB.rat (hx.2.1.mul hy.2.2) (hx.2.2.mul hy.2.1) (mul_ne hx.ne h)
theorem FB.neg {k : Nat} {x : Fr} (hx : FB k x) : FB k (negF x) := ⟨⟨hx.1.1, by show Int.gcd (-x.1) x.2 = 1; rw [Int.neg_gcd]; exact hx.1.2⟩, hx.2.1.neg, hx.2.2⟩
theorem low01 : Low (0, 1) := ⟨by decide, by decide⟩
theorem fb01 : FB 1 (0, 1) := ⟨low01, by decide, by decide⟩
end Num
-- NumB
/-! NumB: laws of fractions. -/
namespace Num
open PySem L2 Sem
theorem rat_uniq {p q p' q' : Int} (hq : q ≠ 0) (hq' : q' ≠ 0) (h : p * q' = p' * q) : ratI p q = ratI p' q' := by
  refine low_uniq (ratI_low hq) (ratI_low hq') ?_
  have c := ratI_cross (p := p) hq
  have c' := ratI_cross (p := p') hq'
  generalize ratI p q = x at *
  generalize ratI p' q' = y at *
  obtain ⟨x1, x2⟩ := x
  obtain ⟨y1, y2⟩ := y
  simp only at *
  have hh : q * q' ≠ 0 := mul_ne hq hq'
  refine Int.eq_of_mul_eq_mul_right hh ?_
  have e1 : x1 * y2 * (q * q') = (x1 * q) * y2 * q' := by ac_rfl
  have e2 : y1 * x2 * (q * q') = (y1 * q') * x2 * q := by ac_rfl
  rw [e1, e2, ← c, ← c']
  have e3 : p * x2 * y2 * q' = (p * q') * (x2 * y2) := by ac_rfl
  have e4 : p' * y2 * x2 * q = (p' * q) * (x2 * y2) := by ac_rfl
  rw [e3, e4, h]
theorem rat_self {x : Fr} (h : Low x) : ratI x.1 x.2 = x := by
  have hq : x.2 ≠ 0 := by have := h.1; omega
  refine low_uniq (ratI_low hq) h ?_
  have c := ratI_cross (p := x.1) hq
  rw [← c]
theorem rat_of {x : Fr} {p q : Int} (h : Low x) (hq : q ≠ 0) (e : p * x.2 = x.1 * q) : ratI p q = x := by
  have hx : x.2 ≠ 0 := by have := h.1; omega
  rw [← rat_self h]
  exact rat_uniq hq hx e
theorem rat_scale {p q s : Int} (hq : q ≠ 0) (hs : s ≠ 0) : ratI (p * s) (q * s) = ratI p q := rat_uniq (mul_ne hq hs) hq (by ac_rfl)
theorem rat_neg {p q : Int} (hq : q ≠ 0) : ratI p (-q) = ratI (-p) q := rat_uniq (by omega) hq (by rw [Int.neg_mul_neg])
/-- a ratio in other words -/
theorem ratI_ratio {p q : Int} (hq : q ≠ 0) : p * (ratI p q).2 = (ratI p q).1 * q := ratI_cross hq
theorem ratI_ne {p q : Int} (hq : q ≠ 0) : (ratI p q).2 ≠ 0 := by have := (ratI_low (p := p) hq).1; omega
theorem Low.ne {x : Fr} (h : Low x) : x.2 ≠ 0 := by have := h.1; omega
theorem mul_div_back {x y : Fr} (hx : Low x) (hy : Low y) (h : y.1 ≠ 0) : mulF (divF x y) y = x := by
  unfold mulF divF
  have hq : x.2 * y.1 ≠ 0 := mul_ne hx.ne h
  have c := ratI_cross (p := x.1 * y.2) hq
  have hn := ratI_ne (p := x.1 * y.2) hq
  generalize ratI (x.1 * y.2) (x.2 * y.1) = z at *
  refine rat_of hx (mul_ne hn hy.ne) ?_
  have e1 : z.1 * y.1 * x.2 = z.1 * (x.2 * y.1) := by ac_rfl
  have e2 : x.1 * (z.2 * y.2) = x.1 * y.2 * z.2 := by ac_rfl
  rw [e1, e2, c]
theorem add_neg_back {t x : Fr} (ht : Low t) (hx : Low x) : addF (addF t x) (negF x) = t := by
  unfold addF negF
  simp only
  have hq : t.2 * x.2 ≠ 0 := mul_ne ht.ne hx.ne
  have c := ratI_cross (p := t.1 * x.2 + x.1 * t.2) hq
  have hn := ratI_ne (p := t.1 * x.2 + x.1 * t.2) hq
  generalize ratI (t.1 * x.2 + x.1 * t.2) (t.2 * x.2) = z at *
  refine rat_of ht (mul_ne hn hx.ne) ?_
  have e1 : (z.1 * x.2 + -x.1 * z.2) * t.2 = z.1 * (t.2 * x.2) - x.1 * z.2 * t.2 := by
    rw [Int.add_mul, Int.neg_mul, Int.neg_mul, Int.sub_eq_add_neg]
    congr 1
    ac_rfl
  rw [e1, ← c, Int.add_mul]
  have e2 : x.1 * t.2 * z.2 = x.1 * z.2 * t.2 := by ac_rfl
  have e3 : t.1 * x.2 * z.2 = t.1 * (z.2 * x.2) := by ac_rfl
  rw [e2, e3]
  omega
theorem fold_low : ∀ (xs : List Fr) (a : Fr), Low a → (∀ x ∈ xs, Low x) → Low (xs.foldl addF a)
  | [], a, h, _ => h
  | x :: xs, a, h, hx => fold_low xs (addF a x) (ratI_low (mul_ne h.ne (hx x (by simp)).ne)) fun z hz => hx z (by simp [hz])
end Num
-- TxtA
/-! TxtA: texts of whole numbers, and how texts compute, over S of codes. -/
namespace Txs
open PySem L2 Sem SX PyProof.Rows
def okS (a : List Nat) : Prop := ∀ c ∈ a, c < 0x110000
theorem strOk_S {a : List Nat} (h : okS a) : PyData.strOk (S a) = true := by
  unfold PyData.strOk
  rw [Array.all_eq_true']
  intro c hc
  exact decide_eq_true (h c (by simpa using hc))
theorem shaped_S {a : List Nat} (h : okS a) : SeqAt.shaped (.str (S a)) = true := by
  unfold SeqAt.shaped
  simp [PyData.canLay0, PyData.depth, strOk_S h]
theorem gEq_fSS {a b : List Nat} (ha : okS a) (hb : okS b) : gEq false (.str (S a)) (.str (S b)) = some (.bool (decide (a = b))) := by
  rw [gEq_f, shaped_S ha, shaped_S hb]
  simp only [PyData.eqv, S_beq_eq, Bool.and_self, if_true]
theorem gEq_tSS {a b : List Nat} (ha : okS a) (hb : okS b) : gEq true (.str (S a)) (.str (S b)) = some (.bool (!decide (a = b))) := by
  rw [gEq_t, shaped_S ha, shaped_S hb]
  simp only [PyData.eqv, S_beq_eq, Bool.and_self, if_true]
def zL (p : Int) : List Nat := if p < 0 then 45 :: TL.numL p.natAbs else TL.numL p.natAbs
theorem ofString_app (a b : String) : Str.ofString (a ++ b) = Str.ofString a ++ Str.ofString b := by
  apply TL.ext_tl
  rw [TL.tl_append]
  show (Str.ofString (a ++ b)).cps.toList = (Str.ofString a).cps.toList ++ (Str.ofString b).cps.toList
  rw [signs_ofString, signs_ofString, signs_ofString, String.toList_append, List.map_append]
theorem str_zL (p : Int) : Str.ofString (toString p) = S (zL p) := by
  unfold zL
  by_cases h : p < 0
  · rw [if_pos h]
    obtain ⟨m, rfl⟩ := Int.eq_negSucc_of_lt_zero h
    have e : toString (Int.negSucc m) = "-" ++ Nat.repr (m + 1) := rfl
    rw [e, ofString_app]
    have e2 : Nat.repr (m + 1) = toString (((m + 1 : Nat)) : Int) := rfl
    rw [e2, num_S]
    rw [show Str.ofString "-" = S [45] from rfl, S_cat]
    rfl
  · rw [if_neg h]
    obtain ⟨n, rfl⟩ := Int.eq_ofNat_of_zero_le (by omega : 0 ≤ p)
    exact num_S n
theorem digitsVal_numL (n : Nat) : NumText.digitsVal (TL.numL n) = n := TL.numL_val n
theorem intText_zL (p : Int) (h : (zL p).length ≤ 4300) : intText? (S (zL p)) = some p := by
  unfold zL at h ⊢
  by_cases hp : p < 0
  · rw [if_pos hp] at h ⊢
    rw [intText_neg (x := S (45 :: TL.numL p.natAbs)) (cs := TL.numL p.natAbs) rfl (TL.numL_digits _) (TL.numL_ne _) (by rw [S_len]; exact h), TL.numL_val]
    congr 1
    omega
  · rw [if_neg hp] at h ⊢
    rw [intText_digits (x := S (TL.numL p.natAbs)) (TL.numL_digits _) (TL.numL_ne _) (by rw [S_len]; exact h)]
    show some (((NumText.digitsVal (TL.numL p.natAbs)) : Nat) : Int) = _
    rw [TL.numL_val]
    congr 1
    omega
theorem numL_len1 (n : Nat) : 1 ≤ (TL.numL n).length := by
  have := TL.numL_ne n
  cases h : TL.numL n with
  | nil => exact (this h).elim
  | cons a l => simp
theorem numL_len10 {n : Nat} (h : 10 ≤ n) : (TL.numL n).length = (TL.numL (n / 10)).length + 1 := by
  rw [TL.numL_step h]
  simp
theorem numL_len4 {n : Nat} (h : 10000 ≤ n) : 5 ≤ (TL.numL n).length := by
  rw [numL_len10 (by omega), numL_len10 (by omega), numL_len10 (by omega), numL_len10 (by omega)]
  have := numL_len1 (n / 10 / 10 / 10 / 10)
  omega
theorem numL_le4 {n : Nat} (h : n < 10000) : (TL.numL n).length ≤ 4 := TL.numL_len (by decide) h
theorem numL_headne : ∀ n : Nat, n ≠ 0 → (TL.numL n).head? ≠ some 48 := by
  intro n
  induction n using Nat.strongRecOn with
  | _ n ih =>
    intro h0
    by_cases h : n < 10
    · rw [TL.numL_lt h]
      simp
      exact h0
    · rw [TL.numL_step (by omega), List.head?_append]
      have := ih (n / 10) (by omega) (by omega)
      cases e : (TL.numL (n / 10)).head? with
      | none => exact absurd (List.head?_eq_none_iff.mp e) (TL.numL_ne _)
      | some c =>
        rw [e] at this
        simpa using this
theorem numL_0 : TL.numL 0 = [48] := TL.numL_lt (by decide)
theorem numL_dig {n c : Nat} (h : c ∈ TL.numL n) : 48 ≤ c ∧ c ≤ 57 := TL.numL_digits n c h
theorem numL_inj0 {n : Nat} (h : TL.numL n = [48]) : n = 0 := TL.numL_inj (h.trans numL_0.symm)
theorem zL_free {p : Int} {c : Nat} (h : c < 45 ∨ (45 < c ∧ c < 48) ∨ 57 < c) : c ∉ zL p := fun hm => by
  unfold zL at hm
  split at hm
  · rcases List.mem_cons.mp hm with e | hm
    · omega
    · have := numL_dig hm
      omega
  · have := numL_dig hm
    omega
theorem zL_nonneg {p : Int} (h : 0 ≤ p) : zL p = TL.numL p.natAbs := if_neg (by omega)
theorem zL_neg {p : Int} (h : p < 0) : zL p = 45 :: TL.numL p.natAbs := if_pos h
theorem numL_len_log {n : Nat} (h : n.log2 < 1920) : (TL.numL n).length ≤ 600 := TL.numL_len (by decide) (by
  have h1 : n < 2 ^ 1920 := Nat.lt_of_lt_of_le Nat.lt_log2_self (Nat.pow_le_pow_right (by decide) (by omega))
  exact Nat.lt_of_lt_of_le h1 (by decide +kernel))
theorem zL_len {p : Int} (h : p.natAbs.log2 < 1920) : (zL p).length ≤ 601 := by
  have := numL_len_log h
  unfold zL
  split
  · rw [List.length_cons]; omega
  · omega
/-! ### operators on S -/
theorem gSl_to {a : List Nat} {i : Int} (h : 0 ≤ i) (hl : small a.length = true) : gSl (.str (S a)) none (some i) = some (.str (S (a.take i.toNat))) := by
  show (if small (S a).length then some (PyData.str (cutS (S a) none (some i))) else none) = _
  rw [S_len, if_pos hl, C8.cutS_slice, slice_to h]
theorem gSl_from {a : List Nat} {i : Int} (h : 0 ≤ i) (hl : small a.length = true) : gSl (.str (S a)) (some i) none = some (.str (S (a.drop i.toNat))) := by
  show (if small (S a).length then some (PyData.str (cutS (S a) (some i) none)) else none) = _
  rw [S_len, if_pos hl, C8.cutS_slice, slice_from h]
theorem beq_S (a b : List Nat) : (S a == S b) = decide (a = b) := S_beq_eq
theorem small_of {n : Nat} (h : n ≤ 4000) : small n = true := by
  unfold small
  simp only [decide_eq_true_eq]
  have : 4000 < cLine := by decide +kernel
  omega
end Txs
-- K00Gen
namespace K00
open PySem L2 Sem PyProof.Rows
def topS (i : Nat) : Stmt := PySem.Challenge.pw_standproof_k00_fractions_of_many_figures.main.body.getD i (.Pass ⟨0, 0, 0, 0⟩)
abbrev s_gcd : Stmt := topS 2
theorem sc_gcd : FnScope ["one", "other"] ["one", "other"] (defScope s_gcd) := ⟨rfl, rfl, rfl, by decide +kernel, rfl, by decide +kernel, by decide +kernel⟩
abbrev s_ratio : Stmt := topS 3
theorem sc_ratio : FnScope ["p", "q", "shared"] ["p", "q"] (defScope s_ratio) := ⟨rfl, rfl, rfl, by decide +kernel, rfl, by decide +kernel, by decide +kernel⟩
abbrev s_add : Stmt := topS 4
theorem sc_add : FnScope ["one", "other"] ["one", "other"] (defScope s_add) := ⟨rfl, rfl, rfl, by decide +kernel, rfl, by decide +kernel, by decide +kernel⟩
abbrev s_sub : Stmt := topS 5
theorem sc_sub : FnScope ["one", "other"] ["one", "other"] (defScope s_sub) := ⟨rfl, rfl, rfl, by decide +kernel, rfl, by decide +kernel, by decide +kernel⟩
abbrev s_mul : Stmt := topS 6
theorem sc_mul : FnScope ["one", "other"] ["one", "other"] (defScope s_mul) := ⟨rfl, rfl, rfl, by decide +kernel, rfl, by decide +kernel, by decide +kernel⟩
abbrev s_div : Stmt := topS 7
theorem sc_div : FnScope ["one", "other"] ["one", "other"] (defScope s_div) := ⟨rfl, rfl, rfl, by decide +kernel, rfl, by decide +kernel, by decide +kernel⟩
abbrev s_neg : Stmt := topS 8
theorem sc_neg : FnScope ["one"] ["one"] (defScope s_neg) := ⟨rfl, rfl, rfl, by decide +kernel, rfl, by decide +kernel, by decide +kernel⟩
abbrev s_size : Stmt := topS 9
theorem sc_size : FnScope ["one"] ["one"] (defScope s_size) := ⟨rfl, rfl, rfl, by decide +kernel, rfl, by decide +kernel, by decide +kernel⟩
abbrev s_below : Stmt := topS 10
theorem sc_below : FnScope ["one", "other"] ["one", "other"] (defScope s_below) := ⟨rfl, rfl, rfl, by decide +kernel, rfl, by decide +kernel, by decide +kernel⟩
abbrev s_total : Stmt := topS 11
theorem sc_total : FnScope ["numbers", "found", "number"] ["numbers"] (defScope s_total) := ⟨rfl, rfl, rfl, by decide +kernel, rfl, by decide +kernel, by decide +kernel⟩
abbrev s_is_fraction : Stmt := topS 12
theorem sc_is_fraction : FnScope ["value", "part"] ["value"] (defScope s_is_fraction) := ⟨rfl, rfl, rfl, by decide +kernel, rfl, by decide +kernel, by decide +kernel⟩
abbrev s_whole_of : Stmt := topS 16
theorem sc_whole_of : FnScope ["word", "digits", "sign"] ["word"] (defScope s_whole_of) := ⟨rfl, rfl, rfl, by decide +kernel, rfl, by decide +kernel, by decide +kernel⟩
abbrev s_number_of : Stmt := topS 17
theorem sc_number_of : FnScope ["word", "parts", "p", "q"] ["word"] (defScope s_number_of) := ⟨rfl, rfl, rfl, by decide +kernel, rfl, by decide +kernel, by decide +kernel⟩
abbrev s_number_text : Stmt := topS 18
theorem sc_number_text : FnScope ["number"] ["number"] (defScope s_number_text) := ⟨rfl, rfl, rfl, by decide +kernel, rfl, by decide +kernel, by decide +kernel⟩
abbrev s_law_start : Stmt := topS 20
theorem sc_law_start : FnScope ["script", "great", "seed", "place", "cell", "turn"] ["script"] (defScope s_law_start) := ⟨rfl, rfl, rfl, by decide +kernel, rfl, by decide +kernel, by decide +kernel⟩
abbrev s_law_take : Stmt := topS 21
theorem sc_law_take : FnScope ["state", "m", "x", "cell"] ["state", "m"] (defScope s_law_take) := ⟨rfl, rfl, rfl, by decide +kernel, rfl, by decide +kernel, by decide +kernel⟩
abbrev s_law_same : Stmt := topS 22
theorem sc_law_same : FnScope ["one", "two", "key", "at"] ["one", "two"] (defScope s_law_same) := ⟨rfl, rfl, rfl, by decide +kernel, rfl, by decide +kernel, by decide +kernel⟩
abbrev s_law_gcd : Stmt := topS 23
theorem sc_law_gcd : FnScope ["one", "other"] ["one", "other"] (defScope s_law_gcd) := ⟨rfl, rfl, rfl, by decide +kernel, rfl, by decide +kernel, by decide +kernel⟩
abbrev s_law_ratio : Stmt := topS 24
theorem sc_law_ratio : FnScope ["top", "bottom", "part"] ["top", "bottom"] (defScope s_law_ratio) := ⟨rfl, rfl, rfl, by decide +kernel, rfl, by decide +kernel, by decide +kernel⟩
abbrev s_law_add : Stmt := topS 25
theorem sc_law_add : FnScope ["one", "other"] ["one", "other"] (defScope s_law_add) := ⟨rfl, rfl, rfl, by decide +kernel, rfl, by decide +kernel, by decide +kernel⟩
abbrev s_law_neg : Stmt := topS 26
theorem sc_law_neg : FnScope ["one"] ["one"] (defScope s_law_neg) := ⟨rfl, rfl, rfl, by decide +kernel, rfl, by decide +kernel, by decide +kernel⟩
abbrev s_law_sub : Stmt := topS 27
theorem sc_law_sub : FnScope ["one", "other"] ["one", "other"] (defScope s_law_sub) := ⟨rfl, rfl, rfl, by decide +kernel, rfl, by decide +kernel, by decide +kernel⟩
abbrev s_law_mul : Stmt := topS 28
theorem sc_law_mul : FnScope ["one", "other"] ["one", "other"] (defScope s_law_mul) := ⟨rfl, rfl, rfl, by decide +kernel, rfl, by decide +kernel, by decide +kernel⟩
abbrev s_law_div : Stmt := topS 29
theorem sc_law_div : FnScope ["one", "other"] ["one", "other"] (defScope s_law_div) := ⟨rfl, rfl, rfl, by decide +kernel, rfl, by decide +kernel, by decide +kernel⟩
abbrev s_law_less : Stmt := topS 30
theorem sc_law_less : FnScope ["one", "other"] ["one", "other"] (defScope s_law_less) := ⟨rfl, rfl, rfl, by decide +kernel, rfl, by decide +kernel, by decide +kernel⟩
abbrev s_law_total : Stmt := topS 31
theorem sc_law_total : FnScope ["numbers", "found", "number"] ["numbers"] (defScope s_law_total) := ⟨rfl, rfl, rfl, by decide +kernel, rfl, by decide +kernel, by decide +kernel⟩
abbrev s_law_word : Stmt := topS 32
theorem sc_law_word : FnScope ["number"] ["number"] (defScope s_law_word) := ⟨rfl, rfl, rfl, by decide +kernel, rfl, by decide +kernel, by decide +kernel⟩
abbrev s_law_great : Stmt := topS 33
theorem sc_law_great : FnScope ["state", "kind", "number"] ["state"] (defScope s_law_great) := ⟨rfl, rfl, rfl, by decide +kernel, rfl, by decide +kernel, by decide +kernel⟩
abbrev s_law_fraction : Stmt := topS 34
theorem sc_law_fraction : FnScope ["state", "bottom"] ["state"] (defScope s_law_fraction) := ⟨rfl, rfl, rfl, by decide +kernel, rfl, by decide +kernel, by decide +kernel⟩
abbrev s_law_values : Stmt := topS 35
theorem sc_law_values : FnScope ["one", "top", "bottom", "found"] ["one"] (defScope s_law_values) := ⟨rfl, rfl, rfl, by decide +kernel, rfl, by decide +kernel, by decide +kernel⟩
abbrev s_law : Stmt := topS 36
theorem sc_law : FnScope ["script", "state", "turn", "a", "b", "shared", "one", "other", "due", "numbers", "small", "number", "place", "value"] ["script"] (defScope s_law) := ⟨rfl, rfl, rfl, by decide +kernel, rfl, by decide +kernel, by decide +kernel⟩
def blt : List Str := ["abs", "all", "any", "bool", "dict", "int", "isinstance", "len", "list", "min", "range", "str", "tuple"]
abbrev c_ZERO : PyData := .tuple [.int 0, .int 1]
abbrev c_DIGITS : PyData := .str (Str.ofString "0123456789")
abbrev c_MOST_NUMBER : PyData := .int 1000
noncomputable def b_gcd : MS :=
    (mSeq (mPar 0 1 (mL1 (mCall gAbs (mA1 (mVar 0) mA0)) (mL1 (mCall gAbs (mA1 (mVar 1) mA0)) mL0)))
    (mSeq (mWh (mTru (mVar 1)) (mPar 0 1 (mL1 (mSet (mVar 1)) (mL1 (mOp (gII (fun _ j => decide (j ≠ 0)) fun i j => i.fmod j) (mVar 0) (mVar 1)) mL0))))
    (mRet (mO (mSet (mVar 0))))))
noncomputable def m_gcd : DEnv → Option (T × DEnv) := mFn 2 2 [] b_gcd
theorem ok_gcd {P : Program} {w : World} {K : PySem.W.Frag} {mg : Str → Option Value} {base : Heap} {f : Addr} {fd : FuncData} (F : Fun K "gcd" "gcd" s_gcd f fd) (hB : ∀ x : Str, blt.contains x = true → mg x = none) :
    FnOk P w K mg base CX0 1 f fd ["one", "other"] (spD K 2 m_gcd) :=
  fn_ok (rts := []) (mb := b_gcd) F sc_gcd rfl rfl (by decide) fun cdv A outer s H E hr =>
    (sb_cons (ss_par 0 1 rfl sc_gcd.nd (sl_cons (sv_callB cd_abs (hB "abs" rfl) (by decide +kernel) (sa_cons (se_var 0) sa_nil)) (sl_cons (sv_callB cd_abs (hB "abs" rfl) (by decide +kernel) (sa_cons (se_var 1) sa_nil)) sl_nil)))
      (sb_cons (ss_while PassesOwn.never (st_truth (se_var 1)) (sb_one (ss_par 0 1 rfl sc_gcd.nd (sl_cons (sv_se (se_var 1)) (sl_cons (sv_op od_mod (se_var 0) (se_var 1)) sl_nil)))))
      (sb_one (ss_ret (so_sv (sv_se (se_var 0)))))))
noncomputable def b_ratio : MS :=
    (mSeq (mAsg 2 (mFr (mCl m_gcd (mA1 (mVar 0) (mA1 (mVar 1) mA0)))))
    (mSeq (mIf (mTV (mOp (gIB fun i j => decide (i < j)) (mVar 1) (mD (mC (.int 0))))) (mAsg 2 (mUn gNeg (mVar 2))) mNx)
    (mRet (mO (mTup (mL1 (mOp (gII divOk fun i j => i.fdiv j) (mVar 0) (mVar 2)) (mL1 (mOp (gII divOk fun i j => i.fdiv j) (mVar 1) (mVar 2)) mL0)))))))
noncomputable def m_ratio : DEnv → Option (T × DEnv) := mFn 2 3 [0, 1] b_ratio
theorem ok_ratio {P : Program} {w : World} {K : PySem.W.Frag} {mg : Str → Option Value} {base : Heap} {f : Addr} {fd : FuncData} (F : Fun K "ratio" "ratio" s_ratio f fd) (hB : ∀ x : Str, blt.contains x = true → mg x = none) (hD_gcd : DefOk P w K mg base "gcd" 1 ["one", "other"] m_gcd) :
    FnOk P w K mg base CX0 2 f fd ["p", "q"] (spD K 2 m_ratio) :=
  fn_ok (rts := [0, 1]) (mb := b_ratio) F sc_ratio rfl rfl (by decide) fun cdv A outer s H E hr =>
    (sb_cons (ss_asg 2 sc_ratio.nd (sv_so (so_callD hD_gcd (hr.mono (by decide)) (sa_cons (se_var 0) (sa_cons (se_var 1) sa_nil)) (mA_len (mA_len mA_len0)))))
      (sb_cons (ss_if (st_cmp od_lt (se_var 1) (se_sv sv_int) (nomark _)) (sb_one (ss_asg 2 sc_ratio.nd (sv_un ud_neg (se_var 2)))) sb_nil)
      (sb_one (ss_ret (so_sv (sv_tup (sl_cons (sv_op od_fdiv (se_var 0) (se_var 2)) (sl_cons (sv_op od_fdiv (se_var 1) (se_var 2)) sl_nil))))))))
noncomputable def b_add : MS :=
    (mRet (mO (mFr (mCl m_ratio (mA1 (mD (mOp gAdd (mD (mOp gMul (mD (mOp gIx (mVar 0) (mD (mC (.int 0))))) (mD (mOp gIx (mVar 1) (mD (mC (.int 1))))))) (mD (mOp gMul (mD (mOp gIx (mVar 1) (mD (mC (.int 0))))) (mD (mOp gIx (mVar 0) (mD (mC (.int 1))))))))) (mA1 (mD (mOp gMul (mD (mOp gIx (mVar 0) (mD (mC (.int 1))))) (mD (mOp gIx (mVar 1) (mD (mC (.int 1))))))) mA0))))))
noncomputable def m_add : DEnv → Option (T × DEnv) := mFn 2 2 [0, 1] b_add
theorem ok_add {P : Program} {w : World} {K : PySem.W.Frag} {mg : Str → Option Value} {base : Heap} {f : Addr} {fd : FuncData} (F : Fun K "add" "add" s_add f fd) (hB : ∀ x : Str, blt.contains x = true → mg x = none) (hD_ratio : DefOk P w K mg base "ratio" 2 ["p", "q"] m_ratio) :
    FnOk P w K mg base CX0 3 f fd ["one", "other"] (spD K 2 m_add) :=
  fn_ok (rts := [0, 1]) (mb := b_add) F sc_add rfl rfl (by decide) fun cdv A outer s H E hr =>
    (sb_one (ss_ret (so_sv (sv_so (so_callD hD_ratio (hr.mono (by decide)) (sa_cons (se_sv (sv_op od_add (se_sv (sv_op od_mul (se_sv (sv_ix (se_var 0) (se_sv sv_int))) (se_sv (sv_ix (se_var 1) (se_sv sv_int))))) (se_sv (sv_op od_mul (se_sv (sv_ix (se_var 1) (se_sv sv_int))) (se_sv (sv_ix (se_var 0) (se_sv sv_int))))))) (sa_cons (se_sv (sv_op od_mul (se_sv (sv_ix (se_var 0) (se_sv sv_int))) (se_sv (sv_ix (se_var 1) (se_sv sv_int))))) sa_nil)) (mA_len (mA_len mA_len0)))))))
noncomputable def b_sub : MS :=
    (mRet (mO (mFr (mCl m_ratio (mA1 (mD (mOp (gII0 fun i j => i - j) (mD (mOp gMul (mD (mOp gIx (mVar 0) (mD (mC (.int 0))))) (mD (mOp gIx (mVar 1) (mD (mC (.int 1))))))) (mD (mOp gMul (mD (mOp gIx (mVar 1) (mD (mC (.int 0))))) (mD (mOp gIx (mVar 0) (mD (mC (.int 1))))))))) (mA1 (mD (mOp gMul (mD (mOp gIx (mVar 0) (mD (mC (.int 1))))) (mD (mOp gIx (mVar 1) (mD (mC (.int 1))))))) mA0))))))
noncomputable def m_sub : DEnv → Option (T × DEnv) := mFn 2 2 [0, 1] b_sub
theorem ok_sub {P : Program} {w : World} {K : PySem.W.Frag} {mg : Str → Option Value} {base : Heap} {f : Addr} {fd : FuncData} (F : Fun K "sub" "sub" s_sub f fd) (hB : ∀ x : Str, blt.contains x = true → mg x = none) (hD_ratio : DefOk P w K mg base "ratio" 2 ["p", "q"] m_ratio) :
    FnOk P w K mg base CX0 3 f fd ["one", "other"] (spD K 2 m_sub) :=
  fn_ok (rts := [0, 1]) (mb := b_sub) F sc_sub rfl rfl (by decide) fun cdv A outer s H E hr =>
    (sb_one (ss_ret (so_sv (sv_so (so_callD hD_ratio (hr.mono (by decide)) (sa_cons (se_sv (sv_op od_sub (se_sv (sv_op od_mul (se_sv (sv_ix (se_var 0) (se_sv sv_int))) (se_sv (sv_ix (se_var 1) (se_sv sv_int))))) (se_sv (sv_op od_mul (se_sv (sv_ix (se_var 1) (se_sv sv_int))) (se_sv (sv_ix (se_var 0) (se_sv sv_int))))))) (sa_cons (se_sv (sv_op od_mul (se_sv (sv_ix (se_var 0) (se_sv sv_int))) (se_sv (sv_ix (se_var 1) (se_sv sv_int))))) sa_nil)) (mA_len (mA_len mA_len0)))))))
noncomputable def b_mul : MS :=
    (mRet (mO (mFr (mCl m_ratio (mA1 (mD (mOp gMul (mD (mOp gIx (mVar 0) (mD (mC (.int 0))))) (mD (mOp gIx (mVar 1) (mD (mC (.int 0))))))) (mA1 (mD (mOp gMul (mD (mOp gIx (mVar 0) (mD (mC (.int 1))))) (mD (mOp gIx (mVar 1) (mD (mC (.int 1))))))) mA0))))))
noncomputable def m_mul : DEnv → Option (T × DEnv) := mFn 2 2 [0, 1] b_mul
theorem ok_mul {P : Program} {w : World} {K : PySem.W.Frag} {mg : Str → Option Value} {base : Heap} {f : Addr} {fd : FuncData} (F : Fun K "mul" "mul" s_mul f fd) (hB : ∀ x : Str, blt.contains x = true → mg x = none) (hD_ratio : DefOk P w K mg base "ratio" 2 ["p", "q"] m_ratio) :
    FnOk P w K mg base CX0 3 f fd ["one", "other"] (spD K 2 m_mul) :=
  fn_ok (rts := [0, 1]) (mb := b_mul) F sc_mul rfl rfl (by decide) fun cdv A outer s H E hr =>
    (sb_one (ss_ret (so_sv (sv_so (so_callD hD_ratio (hr.mono (by decide)) (sa_cons (se_sv (sv_op od_mul (se_sv (sv_ix (se_var 0) (se_sv sv_int))) (se_sv (sv_ix (se_var 1) (se_sv sv_int))))) (sa_cons (se_sv (sv_op od_mul (se_sv (sv_ix (se_var 0) (se_sv sv_int))) (se_sv (sv_ix (se_var 1) (se_sv sv_int))))) sa_nil)) (mA_len (mA_len mA_len0)))))))
noncomputable def b_div : MS :=
    (mRet (mO (mFr (mCl m_ratio (mA1 (mD (mOp gMul (mD (mOp gIx (mVar 0) (mD (mC (.int 0))))) (mD (mOp gIx (mVar 1) (mD (mC (.int 1))))))) (mA1 (mD (mOp gMul (mD (mOp gIx (mVar 0) (mD (mC (.int 1))))) (mD (mOp gIx (mVar 1) (mD (mC (.int 0))))))) mA0))))))
noncomputable def m_div : DEnv → Option (T × DEnv) := mFn 2 2 [0, 1] b_div
theorem ok_div {P : Program} {w : World} {K : PySem.W.Frag} {mg : Str → Option Value} {base : Heap} {f : Addr} {fd : FuncData} (F : Fun K "div" "div" s_div f fd) (hB : ∀ x : Str, blt.contains x = true → mg x = none) (hD_ratio : DefOk P w K mg base "ratio" 2 ["p", "q"] m_ratio) :
    FnOk P w K mg base CX0 3 f fd ["one", "other"] (spD K 2 m_div) :=
  fn_ok (rts := [0, 1]) (mb := b_div) F sc_div rfl rfl (by decide) fun cdv A outer s H E hr =>
    (sb_one (ss_ret (so_sv (sv_so (so_callD hD_ratio (hr.mono (by decide)) (sa_cons (se_sv (sv_op od_mul (se_sv (sv_ix (se_var 0) (se_sv sv_int))) (se_sv (sv_ix (se_var 1) (se_sv sv_int))))) (sa_cons (se_sv (sv_op od_mul (se_sv (sv_ix (se_var 0) (se_sv sv_int))) (se_sv (sv_ix (se_var 1) (se_sv sv_int))))) sa_nil)) (mA_len (mA_len mA_len0)))))))
noncomputable def b_neg : MS :=
    (mRet (mO (mTup (mL1 (mUn gNeg (mD (mOp gIx (mVar 0) (mD (mC (.int 0)))))) (mL1 (mOp gIx (mVar 0) (mD (mC (.int 1)))) mL0)))))
noncomputable def m_neg : DEnv → Option (T × DEnv) := mFn 1 1 [0] b_neg
theorem ok_neg {P : Program} {w : World} {K : PySem.W.Frag} {mg : Str → Option Value} {base : Heap} {f : Addr} {fd : FuncData} (F : Fun K "neg" "neg" s_neg f fd) (hB : ∀ x : Str, blt.contains x = true → mg x = none) :
    FnOk P w K mg base CX0 1 f fd ["one"] (spD K 1 m_neg) :=
  fn_ok (rts := [0]) (mb := b_neg) F sc_neg rfl rfl (by decide) fun cdv A outer s H E hr =>
    (sb_one (ss_ret (so_sv (sv_tup (sl_cons (sv_un ud_neg (se_sv (sv_ix (se_var 0) (se_sv sv_int)))) (sl_cons (sv_ix (se_var 0) (se_sv sv_int)) sl_nil))))))
noncomputable def b_size : MS :=
    (mRet (mO (mTup (mL1 (mCall gAbs (mA1 (mD (mOp gIx (mVar 0) (mD (mC (.int 0))))) mA0)) (mL1 (mOp gIx (mVar 0) (mD (mC (.int 1)))) mL0)))))
noncomputable def m_size : DEnv → Option (T × DEnv) := mFn 1 1 [0] b_size
theorem ok_size {P : Program} {w : World} {K : PySem.W.Frag} {mg : Str → Option Value} {base : Heap} {f : Addr} {fd : FuncData} (F : Fun K "size" "size" s_size f fd) (hB : ∀ x : Str, blt.contains x = true → mg x = none) :
    FnOk P w K mg base CX0 1 f fd ["one"] (spD K 1 m_size) :=
  fn_ok (rts := [0]) (mb := b_size) F sc_size rfl rfl (by decide) fun cdv A outer s H E hr =>
    (sb_one (ss_ret (so_sv (sv_tup (sl_cons (sv_callB cd_abs (hB "abs" rfl) (by decide +kernel) (sa_cons (se_sv (sv_ix (se_var 0) (se_sv sv_int))) sa_nil)) (sl_cons (sv_ix (se_var 0) (se_sv sv_int)) sl_nil))))))
noncomputable def b_below : MS :=
    (mRet (mO (mOp (gIB fun i j => decide (i < j)) (mD (mOp gMul (mD (mOp gIx (mVar 0) (mD (mC (.int 0))))) (mD (mOp gIx (mVar 1) (mD (mC (.int 1))))))) (mD (mOp gMul (mD (mOp gIx (mVar 1) (mD (mC (.int 0))))) (mD (mOp gIx (mVar 0) (mD (mC (.int 1))))))))))
noncomputable def m_below : DEnv → Option (T × DEnv) := mFn 2 2 [0, 1] b_below
theorem ok_below {P : Program} {w : World} {K : PySem.W.Frag} {mg : Str → Option Value} {base : Heap} {f : Addr} {fd : FuncData} (F : Fun K "below" "below" s_below f fd) (hB : ∀ x : Str, blt.contains x = true → mg x = none) :
    FnOk P w K mg base CX0 1 f fd ["one", "other"] (spD K 2 m_below) :=
  fn_ok (rts := [0, 1]) (mb := b_below) F sc_below rfl rfl (by decide) fun cdv A outer s H E hr =>
    (sb_one (ss_ret (so_sv (sv_cmp od_lt (se_sv (sv_op od_mul (se_sv (sv_ix (se_var 0) (se_sv sv_int))) (se_sv (sv_ix (se_var 1) (se_sv sv_int))))) (se_sv (sv_op od_mul (se_sv (sv_ix (se_var 1) (se_sv sv_int))) (se_sv (sv_ix (se_var 0) (se_sv sv_int))))) (nomark _)))))
noncomputable def b_total : MS :=
    (mSeq (mAsg 1 (mC c_ZERO))
    (mSeq (mFor (mSeqI (mSet (mVar 0))) (gN 2) (mAsg 1 (mFr (mCl m_add (mA1 (mVar 1) (mA1 (mVar 2) mA0))))))
    (mRet (mO (mSet (mVar 1))))))
noncomputable def m_total : DEnv → Option (T × DEnv) := mFn 1 3 [0] b_total
theorem ok_total {P : Program} {w : World} {K : PySem.W.Frag} {mg : Str → Option Value} {base : Heap} {f : Addr} {fd : FuncData} (F : Fun K "total" "total" s_total f fd) (hB : ∀ x : Str, blt.contains x = true → mg x = none) (hC_ZERO : ConstOk K mg "ZERO" c_ZERO) (hD_add : DefOk P w K mg base "add" 3 ["one", "other"] m_add) :
    FnOk P w K mg base CX0 4 f fd ["numbers"] (spD K 1 m_total) :=
  fn_ok (rts := [0]) (mb := b_total) F sc_total rfl rfl (by decide) fun cdv A outer s H E hr =>
    (sb_cons (ss_asg 1 sc_total.nd (sv_const hC_ZERO))
      (sb_cons (ss_for PassesOwn.never rfl (si_seq (sv_se (se_var 0))) (sg_name 2 sc_total.nd) (sb_one (ss_asg 1 sc_total.nd (sv_so (so_callD hD_add (hr.mono (by decide)) (sa_cons (se_var 1) (sa_cons (se_var 2) sa_nil)) (mA_len (mA_len mA_len0)))))))
      (sb_one (ss_ret (so_sv (sv_se (se_var 1)))))))
noncomputable def b_is_fraction : MS :=
    (mSeq (mIf (mOrT (mNotT (mTV (mIsi "tuple" (mVar 0)))) (mTV (mOp (gEq true) (mD (mCall gLen (mA1 (mVar 0) mA0))) (mD (mC (.int 2)))))) (mRet (mO (mC (.bool false)))) mNx)
    (mSeq (mIf (mTV (mCall gAny (mA1 (mD (mFr (mLc [1] (mSeqI (mSet (mVar 0))) (gN 1) mYes (mOrV (mNotV (mIsi "int" (mVar 1))) (mIsi "bool" (mVar 1)))))) mA0))) (mRet (mO (mC (.bool false)))) mNx)
    (mRet (mO (mAndV (mOp (gIB fun i j => decide (j < i)) (mD (mOp gIx (mVar 0) (mD (mC (.int 1))))) (mD (mC (.int 0)))) (mOp (gEq false) (mD (mFr (mCl m_gcd (mA1 (mD (mOp gIx (mVar 0) (mD (mC (.int 0))))) (mA1 (mD (mOp gIx (mVar 0) (mD (mC (.int 1))))) mA0))))) (mD (mC (.int 1)))))))))
noncomputable def m_is_fraction : DEnv → Option (T × DEnv) := mFn 1 2 [0] b_is_fraction
theorem ok_is_fraction {P : Program} {w : World} {K : PySem.W.Frag} {mg : Str → Option Value} {base : Heap} {f : Addr} {fd : FuncData} (F : Fun K "is_fraction" "is_fraction" s_is_fraction f fd) (hB : ∀ x : Str, blt.contains x = true → mg x = none) (hD_gcd : DefOk P w K mg base "gcd" 1 ["one", "other"] m_gcd) :
    FnOk P w K mg base CX0 2 f fd ["value"] (spD K 1 m_is_fraction) :=
  fn_ok (rts := [0]) (mb := b_is_fraction) F sc_is_fraction rfl rfl (by decide) fun cdv A outer s H E hr =>
    (sb_cons (ss_if (st_sw (sw_or (st_not (st_val (sv_isi "tuple" (se_var 0) (hB "isinstance" rfl) (hB "tuple" rfl) (by decide +kernel)))) (sw_or1 (st_cmp (od_ne hr.units) (se_sv (sv_callB cd_len (hB "len" rfl) (by decide +kernel) (sa_cons (se_var 0) sa_nil))) (se_sv sv_int) (nomark _))))) (sb_one (ss_ret (so_sv sv_bl))) sb_nil)
      (sb_cons (ss_if (st_val (sv_callB (cd_any rfl) (hB "any" rfl) (by decide +kernel) (sa_cons (se_sv (sv_so (so_lc (own := [("part", 1)]) 2 rfl rfl sc_is_fraction.nd (si_seq (sv_se (se_var 0))) (blkOk_by (N := ["value", "part"]) (sc := defScope s_is_fraction) (by decide +kernel)) (fun _ _ _ _ _ => (sg_name 1 sc_is_fraction.nd)) (fun _ _ _ _ _ => sts_nil) (fun _ _ _ _ _ => (sv_or (sv_not (sv_isi "int" (se_var 1) (hB "isinstance" rfl) (hB "int" rfl) (by decide +kernel))) (sv_one (sv_isi "bool" (se_var 1) (hB "isinstance" rfl) (hB "bool" rfl) (by decide +kernel)))))))) sa_nil))) (sb_one (ss_ret (so_sv sv_bl))) sb_nil)
      (sb_one (ss_ret (so_sv (sv_and (sv_cmp od_gt (se_sv (sv_ix (se_var 0) (se_sv sv_int))) (se_sv sv_int) (nomark _)) (sv_one (sv_cmp (od_eq hr.units) (se_sv (sv_so (so_callD hD_gcd (hr.mono (by decide)) (sa_cons (se_sv (sv_ix (se_var 0) (se_sv sv_int))) (sa_cons (se_sv (sv_ix (se_var 0) (se_sv sv_int))) sa_nil)) (mA_len (mA_len mA_len0))))) (se_sv sv_int) (nomark _)))))))))
noncomputable def b_whole_of : MS :=
    (mSeq (mAsg 1 (mIf (mTV (mOp (gEq false) (mD (mSl (mVar 0) mNoPart (mPart (mC (.int 1))))) (mD (mC (.str (Str.ofString "-")))))) (mSl (mVar 0) (mPart (mC (.int 1))) mNoPart) (mSet (mVar 0))))
    (mSeq (mIf (mOrT (mNotT (mTV (mChain (gIB fun i j => decide (i ≤ j)) (gIB fun i j => decide (i ≤ j)) (mD (mC (.int 1))) (mD (mCall gLen (mA1 (mVar 1) mA0))) (mD (mC (.int 4)))))) (mNotT (mTV (mCall gAll (mA1 (mD (mFr (mLc [2] (mStrI (mSet (mVar 1))) (gN 2) mYes (mOp (gIn false) (mVar 2) (mD (mC c_DIGITS)))))) mA0))))) (mRet (mO (mC .none))) mNx)
    (mSeq (mIf (mAndT (mTV (mOp (gEq false) (mD (mOp gIx (mVar 1) (mD (mC (.int 0))))) (mD (mC (.str (Str.ofString "0")))))) (mTV (mOp (gEq true) (mVar 0) (mD (mC (.str (Str.ofString "0"))))))) (mRet (mO (mC .none))) mNx)
    (mRet (mO (mCall gInt (mA1 (mVar 0) mA0)))))))
noncomputable def m_whole_of : DEnv → Option (T × DEnv) := mFn 1 3 [0] b_whole_of
theorem ok_whole_of {P : Program} {w : World} {K : PySem.W.Frag} {mg : Str → Option Value} {base : Heap} {f : Addr} {fd : FuncData} (F : Fun K "whole_of" "whole_of" s_whole_of f fd) (hB : ∀ x : Str, blt.contains x = true → mg x = none) (hC_DIGITS : ConstOk K mg "DIGITS" c_DIGITS) :
    FnOk P w K mg base CX0 1 f fd ["word"] (spD K 1 m_whole_of) :=
  fn_ok (rts := [0]) (mb := b_whole_of) F sc_whole_of rfl rfl (by decide) fun cdv A outer s H E hr =>
    (sb_cons (ss_asg 1 sc_whole_of.nd (sv_if (st_cmp (od_eq hr.units) (se_sv (sv_slice (se_var 0) sp_none (sp_some sv_int))) (se_sv sv_str) (nomark _)) (sv_slice (se_var 0) (sp_some sv_int) sp_none) (sv_se (se_var 0))))
      (sb_cons (ss_if (st_sw (sw_or (st_not (st_chain od_le od_le (se_sv sv_int) (se_sv (sv_callB cd_len (hB "len" rfl) (by decide +kernel) (sa_cons (se_var 1) sa_nil))) (se_sv sv_int))) (sw_or1 (st_not (st_val (sv_callB (cd_all rfl) (hB "all" rfl) (by decide +kernel) (sa_cons (se_sv (sv_so (so_lc (own := [("sign", 2)]) 3 rfl rfl sc_whole_of.nd (si_str (sv_se (se_var 1))) (blkOk_by (N := ["word", "digits", "sign"]) (sc := defScope s_whole_of) (by decide +kernel)) (fun _ _ _ _ _ => (sg_name 2 sc_whole_of.nd)) (fun _ _ _ _ _ => sts_nil) (fun _ _ _ _ _ => (sv_cmp (od_in (hu65 hr)) (se_var 2) (se_sv (sv_const hC_DIGITS)) (by rfl)))))) sa_nil))))))) (sb_one (ss_ret (so_sv sv_non))) sb_nil)
      (sb_cons (ss_if (st_sw (sw_and (st_cmp (od_eq hr.units) (se_sv (sv_ix (se_var 1) (se_sv sv_int))) (se_sv sv_str) (nomark _)) (sw_and1 (st_cmp (od_ne hr.units) (se_var 0) (se_sv sv_str) (nomark _))))) (sb_one (ss_ret (so_sv sv_non))) sb_nil)
      (sb_one (ss_ret (so_sv (sv_callTy cd_int (hB "int" rfl) (by decide +kernel) (sa_cons (se_var 0) sa_nil))))))))
noncomputable def b_number_of : MS :=
    (mSeq (mAsg 1 (mMS gSplit (mVar 0) (mA1 (mD (mC (.str (Str.ofString "/")))) mA0)))
    (mSeq (mAsg 2 (mFr (mCl m_whole_of (mA1 (mD (mOp gIx (mVar 1) (mD (mC (.int 0))))) mA0))))
    (mSeq (mIf (mOrT (mTV (mOp (gIB fun i j => decide (j < i)) (mD (mCall gLen (mA1 (mVar 1) mA0))) (mD (mC (.int 2))))) (mOrT (mTV (mOp (gIs false) (mVar 2) (mD (mC .none)))) (mTV (mOp (gIB fun i j => decide (j < i)) (mD (mCall gAbs (mA1 (mVar 2) mA0))) (mD (mC c_MOST_NUMBER)))))) (mRet (mO (mC .none))) mNx)
    (mSeq (mIf (mTV (mOp (gEq false) (mD (mCall gLen (mA1 (mVar 1) mA0))) (mD (mC (.int 1))))) (mRet (mO (mTup (mL1 (mSet (mVar 2)) (mL1 (mC (.int 1)) mL0))))) mNx)
    (mSeq (mAsg 3 (mFr (mCl m_whole_of (mA1 (mD (mOp gIx (mVar 1) (mD (mC (.int 1))))) mA0))))
    (mSeq (mIf (mOrT (mTV (mOp (gIs false) (mVar 3) (mD (mC .none)))) (mOrT (mNotT (mTV (mChain (gIB fun i j => decide (i ≤ j)) (gIB fun i j => decide (i ≤ j)) (mD (mC (.int 2))) (mVar 3) (mD (mC c_MOST_NUMBER))))) (mTV (mOp (gEq true) (mD (mFr (mCl m_gcd (mA1 (mVar 2) (mA1 (mVar 3) mA0))))) (mD (mC (.int 1))))))) (mRet (mO (mC .none))) mNx)
    (mRet (mO (mTup (mL1 (mSet (mVar 2)) (mL1 (mSet (mVar 3)) mL0)))))))))))
noncomputable def m_number_of : DEnv → Option (T × DEnv) := mFn 1 4 [0] b_number_of
theorem ok_number_of {P : Program} {w : World} {K : PySem.W.Frag} {mg : Str → Option Value} {base : Heap} {f : Addr} {fd : FuncData} (F : Fun K "number_of" "number_of" s_number_of f fd) (hB : ∀ x : Str, blt.contains x = true → mg x = none) (hC_MOST_NUMBER : ConstOk K mg "MOST_NUMBER" c_MOST_NUMBER) (hD_whole_of : DefOk P w K mg base "whole_of" 1 ["word"] m_whole_of) (hD_gcd : DefOk P w K mg base "gcd" 1 ["one", "other"] m_gcd) :
    FnOk P w K mg base CX0 2 f fd ["word"] (spD K 1 m_number_of) :=
  fn_ok (rts := [0]) (mb := b_number_of) F sc_number_of rfl rfl (by decide) fun cdv A outer s H E hr =>
    (sb_cons (ss_asg 1 sc_number_of.nd (sv_mtS md_split PySem.F.slot_str_split PySem.F.type_str_split (se_var 0) (sa_cons (se_sv sv_str) sa_nil)))
      (sb_cons (ss_asg 2 sc_number_of.nd (sv_so (so_callD hD_whole_of (hr.mono (by decide)) (sa_cons (se_sv (sv_ix (se_var 1) (se_sv sv_int))) sa_nil) (mA_len mA_len0))))
      (sb_cons (ss_if (st_sw (sw_or (st_cmp od_gt (se_sv (sv_callB cd_len (hB "len" rfl) (by decide +kernel) (sa_cons (se_var 1) sa_nil))) (se_sv sv_int) (nomark _)) (sw_or (st_cmp od_is (se_var 2) (se_sv sv_non) (nomark _)) (sw_or1 (st_cmp od_gt (se_sv (sv_callB cd_abs (hB "abs" rfl) (by decide +kernel) (sa_cons (se_var 2) sa_nil))) (se_sv (sv_const hC_MOST_NUMBER)) (nomark _)))))) (sb_one (ss_ret (so_sv sv_non))) sb_nil)
      (sb_cons (ss_if (st_cmp (od_eq hr.units) (se_sv (sv_callB cd_len (hB "len" rfl) (by decide +kernel) (sa_cons (se_var 1) sa_nil))) (se_sv sv_int) (nomark _)) (sb_one (ss_ret (so_sv (sv_tup (sl_cons (sv_se (se_var 2)) (sl_cons sv_int sl_nil)))))) sb_nil)
      (sb_cons (ss_asg 3 sc_number_of.nd (sv_so (so_callD hD_whole_of (hr.mono (by decide)) (sa_cons (se_sv (sv_ix (se_var 1) (se_sv sv_int))) sa_nil) (mA_len mA_len0))))
      (sb_cons (ss_if (st_sw (sw_or (st_cmp od_is (se_var 3) (se_sv sv_non) (nomark _)) (sw_or (st_not (st_chain od_le od_le (se_sv sv_int) (se_var 3) (se_sv (sv_const hC_MOST_NUMBER)))) (sw_or1 (st_cmp (od_ne hr.units) (se_sv (sv_so (so_callD hD_gcd (hr.mono (by decide)) (sa_cons (se_var 2) (sa_cons (se_var 3) sa_nil)) (mA_len (mA_len mA_len0))))) (se_sv sv_int) (nomark _)))))) (sb_one (ss_ret (so_sv sv_non))) sb_nil)
      (sb_one (ss_ret (so_sv (sv_tup (sl_cons (sv_se (se_var 2)) (sl_cons (sv_se (se_var 3)) sl_nil))))))))))))
noncomputable def b_number_text : MS :=
    (mRet (mO (mIf (mTV (mOp (gEq false) (mD (mOp gIx (mVar 0) (mD (mC (.int 1))))) (mD (mC (.int 1))))) (mCall gStr (mA1 (mD (mOp gIx (mVar 0) (mD (mC (.int 0))))) mA0)) (mOp gAdd (mD (mOp gAdd (mD (mCall gStr (mA1 (mD (mOp gIx (mVar 0) (mD (mC (.int 0))))) mA0))) (mD (mC (.str (Str.ofString "/")))))) (mD (mCall gStr (mA1 (mD (mOp gIx (mVar 0) (mD (mC (.int 1))))) mA0)))))))
noncomputable def m_number_text : DEnv → Option (T × DEnv) := mFn 1 1 [0] b_number_text
theorem ok_number_text {P : Program} {w : World} {K : PySem.W.Frag} {mg : Str → Option Value} {base : Heap} {f : Addr} {fd : FuncData} (F : Fun K "number_text" "number_text" s_number_text f fd) (hB : ∀ x : Str, blt.contains x = true → mg x = none) :
    FnOk P w K mg base CX0 1 f fd ["number"] (spD K 1 m_number_text) :=
  fn_ok (rts := [0]) (mb := b_number_text) F sc_number_text rfl rfl (by decide) fun cdv A outer s H E hr =>
    (sb_one (ss_ret (so_sv (sv_if (st_cmp (od_eq hr.units) (se_sv (sv_ix (se_var 0) (se_sv sv_int))) (se_sv sv_int) (nomark _)) (sv_callTy cd_str (hB "str" rfl) (by decide +kernel) (sa_cons (se_sv (sv_ix (se_var 0) (se_sv sv_int))) sa_nil)) (sv_op od_add (se_sv (sv_op od_add (se_sv (sv_callTy cd_str (hB "str" rfl) (by decide +kernel) (sa_cons (se_sv (sv_ix (se_var 0) (se_sv sv_int))) sa_nil))) (se_sv sv_str))) (se_sv (sv_callTy cd_str (hB "str" rfl) (by decide +kernel) (sa_cons (se_sv (sv_ix (se_var 0) (se_sv sv_int))) sa_nil))))))))
noncomputable def b_law_start : MS :=
    (mSeq (mAsg 1 (mC (.int 0)))
    (mSeq (mAsg 2 (mC (.int 17)))
    (mSeq (mFor (mRng1 (mL1 (mCall gMin (mA1 (mD (mScrLen 0)) (mA1 (mD (mC (.int 63))) mA0))) mL0)) (gN 3) (mSeq (mAsg 4 (mScrIx 0 (mSet (mVar 3))))
    (mSeq (mIf (mAndT (mTV (mOp (gEq false) (mVar 1) (mD (mC (.int 0))))) (mTV (mOp (gIB fun i j => decide (j ≤ i)) (mVar 4) (mD (mOp (gII powOk fun i j => i ^ j.toNat) (mD (mC (.int 10))) (mD (mC (.int 18)))))))) (mAsg 1 (mSet (mVar 4))) mNx)
    (mAsg 2 (mOp (gII (fun _ j => decide (j ≠ 0)) fun i j => i.fmod j) (mD (mCall gInt (mA1 (mD (mOp gAdd (mD (mOp gAdd (mD (mOp gMul (mVar 2) (mD (mC (.int 48271))))) (mD (mOp gMul (mVar 4) (mD (mOp gAdd (mD (mOp gMul (mD (mC (.int 2))) (mVar 3))) (mD (mC (.int 3))))))))) (mVar 3))) mA0))) (mD (mC (.int 2147483629))))))))
    (mSeq (mFor (mRng1 (mL1 (mC (.int 3)) mL0)) (gN 5) (mAsg 2 (mOp (gII (fun _ j => decide (j ≠ 0)) fun i j => i.fmod j) (mD (mCall gInt (mA1 (mD (mOp gAdd (mD (mOp gAdd (mD (mOp gAdd (mD (mOp gMul (mVar 2) (mVar 2))) (mD (mOp gMul (mD (mC (.int 48271))) (mVar 2))))) (mD (mOp gMul (mD (mC (.int 91))) (mVar 5))))) (mD (mC (.int 7))))) mA0))) (mD (mC (.int 2147483629))))))
    (mRet (mLst (mL1 (mSet (mVar 1)) (mL1 (mSet (mVar 2)) (mL1 (mC (.int 0)) mL0)))))))))
noncomputable def m_law_start : DEnv → Option (T × DEnv) := mFn 1 6 [0] b_law_start
theorem ok_law_start {P : Program} {w : World} {K : PySem.W.Frag} {mg : Str → Option Value} {base : Heap} {f : Addr} {fd : FuncData} (F : Fun K "_law_start" "_law_start" s_law_start f fd) (hB : ∀ x : Str, blt.contains x = true → mg x = none) :
    FnOk P w K mg base CX0 1 f fd ["script"] (spD K 1 m_law_start) :=
  fn_ok (rts := [0]) (mb := b_law_start) F sc_law_start rfl rfl (by decide) fun cdv A outer s H E hr =>
    (sb_cons (ss_asg 1 sc_law_start.nd sv_int)
      (sb_cons (ss_asg 2 sc_law_start.nd sv_int)
      (sb_cons (ss_for PassesOwn.never rfl (si_range1 (hB "range" rfl) (sl_cons (sv_callB (cd_min rfl) (hB "min" rfl) (by decide +kernel) (sa_cons (se_sv (sv_scrLen 0 (hB "len" rfl) (by decide +kernel))) (sa_cons (se_sv sv_int) sa_nil))) sl_nil)) (sg_name 3 sc_law_start.nd) (sb_cons (ss_asg 4 sc_law_start.nd (sv_scrIx 0 (sv_se (se_var 3))))
      (sb_cons (ss_if (st_sw (sw_and (st_cmp (od_eq hr.units) (se_var 1) (se_sv sv_int) (nomark _)) (sw_and1 (st_cmp od_ge (se_var 4) (se_sv (sv_op od_pow (se_sv sv_int) (se_sv sv_int))) (nomark _))))) (sb_one (ss_asg 1 sc_law_start.nd (sv_se (se_var 4)))) sb_nil)
      (sb_one (ss_asg 2 sc_law_start.nd (sv_op od_mod (se_sv (sv_callTy cd_int (hB "int" rfl) (by decide +kernel) (sa_cons (se_sv (sv_op od_add (se_sv (sv_op od_add (se_sv (sv_op od_mul (se_var 2) (se_sv sv_int))) (se_sv (sv_op od_mul (se_var 4) (se_sv (sv_op od_add (se_sv (sv_op od_mul (se_sv sv_int) (se_var 3))) (se_sv sv_int))))))) (se_var 3))) sa_nil))) (se_sv sv_int)))))))
      (sb_cons (ss_for PassesOwn.never rfl (si_range1 (hB "range" rfl) (sl_cons sv_int sl_nil)) (sg_name 5 sc_law_start.nd) (sb_one (ss_asg 2 sc_law_start.nd (sv_op od_mod (se_sv (sv_callTy cd_int (hB "int" rfl) (by decide +kernel) (sa_cons (se_sv (sv_op od_add (se_sv (sv_op od_add (se_sv (sv_op od_add (se_sv (sv_op od_mul (se_var 2) (se_var 2))) (se_sv (sv_op od_mul (se_sv sv_int) (se_var 2))))) (se_sv (sv_op od_mul (se_sv sv_int) (se_var 5))))) (se_sv sv_int))) sa_nil))) (se_sv sv_int)))))
      (sb_one (ss_ret (so_lst (sl_cons (sv_se (se_var 1)) (sl_cons (sv_se (se_var 2)) (sl_cons sv_int sl_nil))))))))))
noncomputable def b_law_take : MS :=
    (mSeq (mIf (mTV (mOp (gIB fun i j => decide (j < i)) (mD (mOp gIx (mVar 0) (mD (mC (.int 0))))) (mD (mC (.int 0))))) (mSeq (mAsg 2 (mOp (gII (fun _ j => decide (j ≠ 0)) fun i j => i.fmod j) (mD (mCall gInt (mA1 (mD (mOp gIx (mVar 0) (mD (mC (.int 0))))) mA0))) (mVar 1)))
    (mSeq (mSetIx (mVar 0) (mD (mC (.int 0))) (mCall gInt (mA1 (mD (mOp (gII divOk fun i j => i.fdiv j) (mD (mOp gIx (mVar 0) (mD (mC (.int 0))))) (mVar 1))) mA0)))
    (mRet (mO (mSet (mVar 2)))))) mNx)
    (mSeq (mSetIx (mVar 0) (mD (mC (.int 2))) (mOp gAdd (mD (mOp gIx (mVar 0) (mD (mC (.int 2))))) (mD (mC (.int 1)))))
    (mSeq (mAsg 3 (mOp (gII (fun _ j => decide (j ≠ 0)) fun i j => i.fmod j) (mD (mCall gInt (mA1 (mD (mOp gAdd (mD (mOp gMul (mD (mOp gIx (mVar 0) (mD (mC (.int 1))))) (mD (mC (.int 48271))))) (mD (mOp gMul (mD (mC (.int 69621))) (mD (mOp gIx (mVar 0) (mD (mC (.int 2))))))))) mA0))) (mD (mC (.int 2147483647)))))
    (mSeq (mAsg 3 (mOp (gII (fun _ j => decide (j ≠ 0)) fun i j => i.fmod j) (mD (mCall gInt (mA1 (mD (mOp gAdd (mD (mOp gMul (mVar 3) (mVar 3))) (mD (mOp gMul (mD (mC (.int 48271))) (mD (mOp (gII divOk fun i j => i.fdiv j) (mVar 3) (mD (mC (.int 1000))))))))) mA0))) (mD (mC (.int 2147483629)))))
    (mSeq (mAsg 3 (mOp (gII (fun _ j => decide (j ≠ 0)) fun i j => i.fmod j) (mD (mCall gInt (mA1 (mD (mOp gAdd (mD (mOp gAdd (mD (mOp gMul (mVar 3) (mVar 3))) (mD (mOp gMul (mD (mC (.int 31))) (mVar 3))))) (mD (mOp gIx (mVar 0) (mD (mC (.int 2))))))) mA0))) (mD (mC (.int 2147483647)))))
    (mRet (mO (mOp (gII (fun _ j => decide (j ≠ 0)) fun i j => i.fmod j) (mD (mCall gInt (mA1 (mD (mOp (gII divOk fun i j => i.fdiv j) (mVar 3) (mD (mC (.int 7))))) mA0))) (mVar 1)))))))))
noncomputable def m_law_take : DEnv → Option (T × DEnv) := mFn 2 4 [0, 1] b_law_take
theorem ok_law_take {P : Program} {w : World} {K : PySem.W.Frag} {mg : Str → Option Value} {base : Heap} {f : Addr} {fd : FuncData} (F : Fun K "_law_take" "_law_take" s_law_take f fd) (hB : ∀ x : Str, blt.contains x = true → mg x = none) :
    FnOk P w K mg base CX0 1 f fd ["state", "m"] (spD K 2 m_law_take) :=
  fn_ok (rts := [0, 1]) (mb := b_law_take) F sc_law_take rfl rfl (by decide) fun cdv A outer s H E hr =>
    (sb_cons (ss_if (st_cmp od_gt (se_sv (sv_ix (se_var 0) (se_sv sv_int))) (se_sv sv_int) (nomark _)) (sb_cons (ss_asg 2 sc_law_take.nd (sv_op od_mod (se_sv (sv_callTy cd_int (hB "int" rfl) (by decide +kernel) (sa_cons (se_sv (sv_ix (se_var 0) (se_sv sv_int))) sa_nil))) (se_var 1)))
      (sb_cons (ss_setix (sv_callTy cd_int (hB "int" rfl) (by decide +kernel) (sa_cons (se_sv (sv_op od_fdiv (se_sv (sv_ix (se_var 0) (se_sv sv_int))) (se_var 1))) sa_nil)) (se_var 0) (se_sv sv_int))
      (sb_one (ss_ret (so_sv (sv_se (se_var 2))))))) sb_nil)
      (sb_cons (ss_setix (sv_op od_add (se_sv (sv_ix (se_var 0) (se_sv sv_int))) (se_sv sv_int)) (se_var 0) (se_sv sv_int))
      (sb_cons (ss_asg 3 sc_law_take.nd (sv_op od_mod (se_sv (sv_callTy cd_int (hB "int" rfl) (by decide +kernel) (sa_cons (se_sv (sv_op od_add (se_sv (sv_op od_mul (se_sv (sv_ix (se_var 0) (se_sv sv_int))) (se_sv sv_int))) (se_sv (sv_op od_mul (se_sv sv_int) (se_sv (sv_ix (se_var 0) (se_sv sv_int))))))) sa_nil))) (se_sv sv_int)))
      (sb_cons (ss_asg 3 sc_law_take.nd (sv_op od_mod (se_sv (sv_callTy cd_int (hB "int" rfl) (by decide +kernel) (sa_cons (se_sv (sv_op od_add (se_sv (sv_op od_mul (se_var 3) (se_var 3))) (se_sv (sv_op od_mul (se_sv sv_int) (se_sv (sv_op od_fdiv (se_var 3) (se_sv sv_int))))))) sa_nil))) (se_sv sv_int)))
      (sb_cons (ss_asg 3 sc_law_take.nd (sv_op od_mod (se_sv (sv_callTy cd_int (hB "int" rfl) (by decide +kernel) (sa_cons (se_sv (sv_op od_add (se_sv (sv_op od_add (se_sv (sv_op od_mul (se_var 3) (se_var 3))) (se_sv (sv_op od_mul (se_sv sv_int) (se_var 3))))) (se_sv (sv_ix (se_var 0) (se_sv sv_int))))) sa_nil))) (se_sv sv_int)))
      (sb_one (ss_ret (so_sv (sv_op od_mod (se_sv (sv_callTy cd_int (hB "int" rfl) (by decide +kernel) (sa_cons (se_sv (sv_op od_fdiv (se_var 3) (se_sv sv_int))) sa_nil))) (se_var 1))))))))))
noncomputable def b_law_same (m_law_same : DEnv → Option (T × DEnv)) : MS :=
    (mSeq (mIf (mOrT (mTV (mIsi "bool" (mVar 0))) (mTV (mIsi "bool" (mVar 1)))) (mRet (mO (mAndV (mIsi "bool" (mVar 0)) (mAndV (mIsi "bool" (mVar 1)) (mOp (gEq false) (mVar 0) (mVar 1)))))) mNx)
    (mSeq (mIf (mOrT (mTV (mIsi "dict" (mVar 0))) (mTV (mIsi "dict" (mVar 1)))) (mSeq mNo
    mNo) mNx)
    (mSeq (mIf (mOrT (mTV (mOp (gEq true) (mD (mIsi "list" (mVar 0))) (mD (mIsi "list" (mVar 1))))) (mTV (mOp (gEq true) (mD (mIsi "tuple" (mVar 0))) (mD (mIsi "tuple" (mVar 1)))))) (mRet (mO (mC (.bool false)))) mNx)
    (mSeq (mIf (mOrT (mTV (mIsi "list" (mVar 0))) (mTV (mIsi "tuple" (mVar 0)))) (mRet (mO (mAndV (mOp (gEq false) (mD (mCall gLen (mA1 (mVar 0) mA0))) (mD (mCall gLen (mA1 (mVar 1) mA0)))) (mCall gAll (mA1 (mD (mFr (mLc [3] (mRng1 (mL1 (mCall gLen (mA1 (mVar 0) mA0)) mL0)) (gN 3) mYes (mFr (mCl m_law_same (mA1 (mD (mOp gIx (mVar 0) (mVar 3))) (mA1 (mD (mOp gIx (mVar 1) (mVar 3))) mA0))))))) mA0))))) mNx)
    (mRet (mO (mAndV (mOp (gEq false) (mD (mIsi "int" (mVar 0))) (mD (mIsi "int" (mVar 1)))) (mAndV (mOp (gEq false) (mD (mIsi "str" (mVar 0))) (mD (mIsi "str" (mVar 1)))) (mOp (gEq false) (mVar 0) (mVar 1))))))))))
noncomputable def r_law_same : Nat → DEnv → Option (T × DEnv)
  | 0 => fun _ => none
  | n + 1 => mFn 2 4 [0, 1] (b_law_same (r_law_same n))
@[irreducible] noncomputable def m_law_same : DEnv → Option (T × DEnv) := r_law_same 8
theorem m_law_same_eq : m_law_same = r_law_same 8 := by unfold m_law_same; rfl
theorem okS_law_same {P : Program} {w : World} {K : PySem.W.Frag} {mg : Str → Option Value} {base : Heap} {f : Addr} {fd : FuncData} (F : Fun K "_law_same" "_law_same" s_law_same f fd) (hB : ∀ x : Str, blt.contains x = true → mg x = none) (n : Nat) (hD_law_same : DefOk P w K mg base "_law_same" n ["one", "two"] (r_law_same n)) :
    FnOk P w K mg base CX0 (n + 1) f fd ["one", "two"] (spD K 2 (r_law_same (n + 1))) :=
  fn_ok (rts := [0, 1]) (mb := b_law_same (r_law_same n)) F sc_law_same rfl rfl (by decide) fun cdv A outer s H E hr =>
    (sb_cons (ss_if (st_sw (sw_or (st_val (sv_isi "bool" (se_var 0) (hB "isinstance" rfl) (hB "bool" rfl) (by decide +kernel))) (sw_or1 (st_val (sv_isi "bool" (se_var 1) (hB "isinstance" rfl) (hB "bool" rfl) (by decide +kernel)))))) (sb_one (ss_ret (so_sv (sv_and (sv_isi "bool" (se_var 0) (hB "isinstance" rfl) (hB "bool" rfl) (by decide +kernel)) (sv_and (sv_isi "bool" (se_var 1) (hB "isinstance" rfl) (hB "bool" rfl) (by decide +kernel)) (sv_one (sv_cmp (od_eq hr.units) (se_var 0) (se_var 1) (nomark _)))))))) sb_nil)
      (sb_cons (ss_if (st_sw (sw_or (st_val (sv_isi "dict" (se_var 0) (hB "isinstance" rfl) (hB "dict" rfl) (by decide +kernel))) (sw_or1 (st_val (sv_isi "dict" (se_var 1) (hB "isinstance" rfl) (hB "dict" rfl) (by decide +kernel)))))) (sb_cons ss_never
      (sb_one ss_never)) sb_nil)
      (sb_cons (ss_if (st_sw (sw_or (st_cmp (od_ne hr.units) (se_sv (sv_isi "list" (se_var 0) (hB "isinstance" rfl) (hB "list" rfl) (by decide +kernel))) (se_sv (sv_isi "list" (se_var 1) (hB "isinstance" rfl) (hB "list" rfl) (by decide +kernel))) (nomark _)) (sw_or1 (st_cmp (od_ne hr.units) (se_sv (sv_isi "tuple" (se_var 0) (hB "isinstance" rfl) (hB "tuple" rfl) (by decide +kernel))) (se_sv (sv_isi "tuple" (se_var 1) (hB "isinstance" rfl) (hB "tuple" rfl) (by decide +kernel))) (nomark _))))) (sb_one (ss_ret (so_sv sv_bl))) sb_nil)
      (sb_cons (ss_if (st_sw (sw_or (st_val (sv_isi "list" (se_var 0) (hB "isinstance" rfl) (hB "list" rfl) (by decide +kernel))) (sw_or1 (st_val (sv_isi "tuple" (se_var 0) (hB "isinstance" rfl) (hB "tuple" rfl) (by decide +kernel)))))) (sb_one (ss_ret (so_sv (sv_and (sv_cmp (od_eq hr.units) (se_sv (sv_callB cd_len (hB "len" rfl) (by decide +kernel) (sa_cons (se_var 0) sa_nil))) (se_sv (sv_callB cd_len (hB "len" rfl) (by decide +kernel) (sa_cons (se_var 1) sa_nil))) (nomark _)) (sv_one (sv_callB (cd_all rfl) (hB "all" rfl) (by decide +kernel) (sa_cons (se_sv (sv_so (so_lc (own := [("at", 3)]) 4 rfl rfl sc_law_same.nd (si_range1 (hB "range" rfl) (sl_cons (sv_callB cd_len (hB "len" rfl) (by decide +kernel) (sa_cons (se_var 0) sa_nil)) sl_nil)) (blkOk_by (N := ["one", "two", "key", "at"]) (sc := defScope s_law_same) (by decide +kernel)) (fun _ _ _ _ _ => (sg_name 3 sc_law_same.nd)) (fun _ _ _ _ _ => sts_nil) (fun _ _ _ _ _ => (sv_so (so_callD hD_law_same hr (sa_cons (se_sv (sv_ix (se_var 0) (se_var 3))) (sa_cons (se_sv (sv_ix (se_var 1) (se_var 3))) sa_nil)) (mA_len (mA_len mA_len0)))))))) sa_nil))))))) sb_nil)
      (sb_one (ss_ret (so_sv (sv_and (sv_cmp (od_eq hr.units) (se_sv (sv_isi "int" (se_var 0) (hB "isinstance" rfl) (hB "int" rfl) (by decide +kernel))) (se_sv (sv_isi "int" (se_var 1) (hB "isinstance" rfl) (hB "int" rfl) (by decide +kernel))) (nomark _)) (sv_and (sv_cmp (od_eq hr.units) (se_sv (sv_isi "str" (se_var 0) (hB "isinstance" rfl) (hB "str" rfl) (by decide +kernel))) (se_sv (sv_isi "str" (se_var 1) (hB "isinstance" rfl) (hB "str" rfl) (by decide +kernel))) (nomark _)) (sv_one (sv_cmp (od_eq hr.units) (se_var 0) (se_var 1) (nomark _))))))))))))
noncomputable def b_law_gcd : MS :=
    (mSeq (mPar 0 1 (mL1 (mCall gAbs (mA1 (mVar 0) mA0)) (mL1 (mCall gAbs (mA1 (mVar 1) mA0)) mL0)))
    (mSeq (mWh (mTV (mOp (gEq true) (mVar 1) (mD (mC (.int 0))))) (mPar 0 1 (mL1 (mSet (mVar 1)) (mL1 (mOp (gII (fun _ j => decide (j ≠ 0)) fun i j => i.fmod j) (mD (mCall gInt (mA1 (mVar 0) mA0))) (mVar 1)) mL0))))
    (mRet (mO (mSet (mVar 0))))))
noncomputable def m_law_gcd : DEnv → Option (T × DEnv) := mFn 2 2 [] b_law_gcd
theorem ok_law_gcd {P : Program} {w : World} {K : PySem.W.Frag} {mg : Str → Option Value} {base : Heap} {f : Addr} {fd : FuncData} (F : Fun K "_law_gcd" "_law_gcd" s_law_gcd f fd) (hB : ∀ x : Str, blt.contains x = true → mg x = none) :
    FnOk P w K mg base CX0 1 f fd ["one", "other"] (spD K 2 m_law_gcd) :=
  fn_ok (rts := []) (mb := b_law_gcd) F sc_law_gcd rfl rfl (by decide) fun cdv A outer s H E hr =>
    (sb_cons (ss_par 0 1 rfl sc_law_gcd.nd (sl_cons (sv_callB cd_abs (hB "abs" rfl) (by decide +kernel) (sa_cons (se_var 0) sa_nil)) (sl_cons (sv_callB cd_abs (hB "abs" rfl) (by decide +kernel) (sa_cons (se_var 1) sa_nil)) sl_nil)))
      (sb_cons (ss_while PassesOwn.never (st_cmp (od_ne hr.units) (se_var 1) (se_sv sv_int) (nomark _)) (sb_one (ss_par 0 1 rfl sc_law_gcd.nd (sl_cons (sv_se (se_var 1)) (sl_cons (sv_op od_mod (se_sv (sv_callTy cd_int (hB "int" rfl) (by decide +kernel) (sa_cons (se_var 0) sa_nil))) (se_var 1)) sl_nil)))))
      (sb_one (ss_ret (so_sv (sv_se (se_var 0)))))))
noncomputable def b_law_ratio : MS :=
    (mSeq (mAsg 2 (mFr (mCl m_law_gcd (mA1 (mVar 0) (mA1 (mVar 1) mA0)))))
    (mSeq (mIf (mTV (mOp (gIB fun i j => decide (i < j)) (mVar 1) (mD (mC (.int 0))))) (mAsg 2 (mUn gNeg (mVar 2))) mNx)
    (mRet (mO (mTup (mL1 (mOp (gII divOk fun i j => i.fdiv j) (mVar 0) (mVar 2)) (mL1 (mOp (gII divOk fun i j => i.fdiv j) (mVar 1) (mVar 2)) mL0)))))))
noncomputable def m_law_ratio : DEnv → Option (T × DEnv) := mFn 2 3 [0, 1] b_law_ratio
theorem ok_law_ratio {P : Program} {w : World} {K : PySem.W.Frag} {mg : Str → Option Value} {base : Heap} {f : Addr} {fd : FuncData} (F : Fun K "_law_ratio" "_law_ratio" s_law_ratio f fd) (hB : ∀ x : Str, blt.contains x = true → mg x = none) (hD_law_gcd : DefOk P w K mg base "_law_gcd" 1 ["one", "other"] m_law_gcd) :
    FnOk P w K mg base CX0 2 f fd ["top", "bottom"] (spD K 2 m_law_ratio) :=
  fn_ok (rts := [0, 1]) (mb := b_law_ratio) F sc_law_ratio rfl rfl (by decide) fun cdv A outer s H E hr =>
    (sb_cons (ss_asg 2 sc_law_ratio.nd (sv_so (so_callD hD_law_gcd (hr.mono (by decide)) (sa_cons (se_var 0) (sa_cons (se_var 1) sa_nil)) (mA_len (mA_len mA_len0)))))
      (sb_cons (ss_if (st_cmp od_lt (se_var 1) (se_sv sv_int) (nomark _)) (sb_one (ss_asg 2 sc_law_ratio.nd (sv_un ud_neg (se_var 2)))) sb_nil)
      (sb_one (ss_ret (so_sv (sv_tup (sl_cons (sv_op od_fdiv (se_var 0) (se_var 2)) (sl_cons (sv_op od_fdiv (se_var 1) (se_var 2)) sl_nil))))))))
noncomputable def b_law_add : MS :=
    (mRet (mO (mFr (mCl m_law_ratio (mA1 (mD (mOp gAdd (mD (mOp gMul (mD (mOp gIx (mVar 0) (mD (mC (.int 0))))) (mD (mOp gIx (mVar 1) (mD (mC (.int 1))))))) (mD (mOp gMul (mD (mOp gIx (mVar 1) (mD (mC (.int 0))))) (mD (mOp gIx (mVar 0) (mD (mC (.int 1))))))))) (mA1 (mD (mOp gMul (mD (mOp gIx (mVar 0) (mD (mC (.int 1))))) (mD (mOp gIx (mVar 1) (mD (mC (.int 1))))))) mA0))))))
noncomputable def m_law_add : DEnv → Option (T × DEnv) := mFn 2 2 [0, 1] b_law_add
theorem ok_law_add {P : Program} {w : World} {K : PySem.W.Frag} {mg : Str → Option Value} {base : Heap} {f : Addr} {fd : FuncData} (F : Fun K "_law_add" "_law_add" s_law_add f fd) (hB : ∀ x : Str, blt.contains x = true → mg x = none) (hD_law_ratio : DefOk P w K mg base "_law_ratio" 2 ["top", "bottom"] m_law_ratio) :
    FnOk P w K mg base CX0 3 f fd ["one", "other"] (spD K 2 m_law_add) :=
  fn_ok (rts := [0, 1]) (mb := b_law_add) F sc_law_add rfl rfl (by decide) fun cdv A outer s H E hr =>
    (sb_one (ss_ret (so_sv (sv_so (so_callD hD_law_ratio (hr.mono (by decide)) (sa_cons (se_sv (sv_op od_add (se_sv (sv_op od_mul (se_sv (sv_ix (se_var 0) (se_sv sv_int))) (se_sv (sv_ix (se_var 1) (se_sv sv_int))))) (se_sv (sv_op od_mul (se_sv (sv_ix (se_var 1) (se_sv sv_int))) (se_sv (sv_ix (se_var 0) (se_sv sv_int))))))) (sa_cons (se_sv (sv_op od_mul (se_sv (sv_ix (se_var 0) (se_sv sv_int))) (se_sv (sv_ix (se_var 1) (se_sv sv_int))))) sa_nil)) (mA_len (mA_len mA_len0)))))))
noncomputable def b_law_neg : MS :=
    (mRet (mO (mTup (mL1 (mUn gNeg (mD (mOp gIx (mVar 0) (mD (mC (.int 0)))))) (mL1 (mOp gIx (mVar 0) (mD (mC (.int 1)))) mL0)))))
noncomputable def m_law_neg : DEnv → Option (T × DEnv) := mFn 1 1 [0] b_law_neg
theorem ok_law_neg {P : Program} {w : World} {K : PySem.W.Frag} {mg : Str → Option Value} {base : Heap} {f : Addr} {fd : FuncData} (F : Fun K "_law_neg" "_law_neg" s_law_neg f fd) (hB : ∀ x : Str, blt.contains x = true → mg x = none) :
    FnOk P w K mg base CX0 1 f fd ["one"] (spD K 1 m_law_neg) :=
  fn_ok (rts := [0]) (mb := b_law_neg) F sc_law_neg rfl rfl (by decide) fun cdv A outer s H E hr =>
    (sb_one (ss_ret (so_sv (sv_tup (sl_cons (sv_un ud_neg (se_sv (sv_ix (se_var 0) (se_sv sv_int)))) (sl_cons (sv_ix (se_var 0) (se_sv sv_int)) sl_nil))))))
noncomputable def b_law_sub : MS :=
    (mRet (mO (mFr (mCl m_law_add (mA1 (mVar 0) (mA1 (mD (mFr (mCl m_law_neg (mA1 (mVar 1) mA0)))) mA0))))))
noncomputable def m_law_sub : DEnv → Option (T × DEnv) := mFn 2 2 [0, 1] b_law_sub
theorem ok_law_sub {P : Program} {w : World} {K : PySem.W.Frag} {mg : Str → Option Value} {base : Heap} {f : Addr} {fd : FuncData} (F : Fun K "_law_sub" "_law_sub" s_law_sub f fd) (hB : ∀ x : Str, blt.contains x = true → mg x = none) (hD_law_neg : DefOk P w K mg base "_law_neg" 1 ["one"] m_law_neg) (hD_law_add : DefOk P w K mg base "_law_add" 3 ["one", "other"] m_law_add) :
    FnOk P w K mg base CX0 4 f fd ["one", "other"] (spD K 2 m_law_sub) :=
  fn_ok (rts := [0, 1]) (mb := b_law_sub) F sc_law_sub rfl rfl (by decide) fun cdv A outer s H E hr =>
    (sb_one (ss_ret (so_sv (sv_so (so_callD hD_law_add (hr.mono (by decide)) (sa_cons (se_var 0) (sa_cons (se_sv (sv_so (so_callD hD_law_neg (hr.mono (by decide)) (sa_cons (se_var 1) sa_nil) (mA_len mA_len0)))) sa_nil)) (mA_len (mA_len mA_len0)))))))
noncomputable def b_law_mul : MS :=
    (mRet (mO (mFr (mCl m_law_ratio (mA1 (mD (mOp gMul (mD (mOp gIx (mVar 0) (mD (mC (.int 0))))) (mD (mOp gIx (mVar 1) (mD (mC (.int 0))))))) (mA1 (mD (mOp gMul (mD (mOp gIx (mVar 0) (mD (mC (.int 1))))) (mD (mOp gIx (mVar 1) (mD (mC (.int 1))))))) mA0))))))
noncomputable def m_law_mul : DEnv → Option (T × DEnv) := mFn 2 2 [0, 1] b_law_mul
theorem ok_law_mul {P : Program} {w : World} {K : PySem.W.Frag} {mg : Str → Option Value} {base : Heap} {f : Addr} {fd : FuncData} (F : Fun K "_law_mul" "_law_mul" s_law_mul f fd) (hB : ∀ x : Str, blt.contains x = true → mg x = none) (hD_law_ratio : DefOk P w K mg base "_law_ratio" 2 ["top", "bottom"] m_law_ratio) :
    FnOk P w K mg base CX0 3 f fd ["one", "other"] (spD K 2 m_law_mul) :=
  fn_ok (rts := [0, 1]) (mb := b_law_mul) F sc_law_mul rfl rfl (by decide) fun cdv A outer s H E hr =>
    (sb_one (ss_ret (so_sv (sv_so (so_callD hD_law_ratio (hr.mono (by decide)) (sa_cons (se_sv (sv_op od_mul (se_sv (sv_ix (se_var 0) (se_sv sv_int))) (se_sv (sv_ix (se_var 1) (se_sv sv_int))))) (sa_cons (se_sv (sv_op od_mul (se_sv (sv_ix (se_var 0) (se_sv sv_int))) (se_sv (sv_ix (se_var 1) (se_sv sv_int))))) sa_nil)) (mA_len (mA_len mA_len0)))))))
noncomputable def b_law_div : MS :=
    (mRet (mO (mFr (mCl m_law_ratio (mA1 (mD (mOp gMul (mD (mOp gIx (mVar 0) (mD (mC (.int 0))))) (mD (mOp gIx (mVar 1) (mD (mC (.int 1))))))) (mA1 (mD (mOp gMul (mD (mOp gIx (mVar 0) (mD (mC (.int 1))))) (mD (mOp gIx (mVar 1) (mD (mC (.int 0))))))) mA0))))))
noncomputable def m_law_div : DEnv → Option (T × DEnv) := mFn 2 2 [0, 1] b_law_div
theorem ok_law_div {P : Program} {w : World} {K : PySem.W.Frag} {mg : Str → Option Value} {base : Heap} {f : Addr} {fd : FuncData} (F : Fun K "_law_div" "_law_div" s_law_div f fd) (hB : ∀ x : Str, blt.contains x = true → mg x = none) (hD_law_ratio : DefOk P w K mg base "_law_ratio" 2 ["top", "bottom"] m_law_ratio) :
    FnOk P w K mg base CX0 3 f fd ["one", "other"] (spD K 2 m_law_div) :=
  fn_ok (rts := [0, 1]) (mb := b_law_div) F sc_law_div rfl rfl (by decide) fun cdv A outer s H E hr =>
    (sb_one (ss_ret (so_sv (sv_so (so_callD hD_law_ratio (hr.mono (by decide)) (sa_cons (se_sv (sv_op od_mul (se_sv (sv_ix (se_var 0) (se_sv sv_int))) (se_sv (sv_ix (se_var 1) (se_sv sv_int))))) (sa_cons (se_sv (sv_op od_mul (se_sv (sv_ix (se_var 0) (se_sv sv_int))) (se_sv (sv_ix (se_var 1) (se_sv sv_int))))) sa_nil)) (mA_len (mA_len mA_len0)))))))
noncomputable def b_law_less : MS :=
    (mRet (mO (mOp (gIB fun i j => decide (i < j)) (mD (mOp gMul (mD (mOp gIx (mVar 0) (mD (mC (.int 0))))) (mD (mOp gIx (mVar 1) (mD (mC (.int 1))))))) (mD (mOp gMul (mD (mOp gIx (mVar 1) (mD (mC (.int 0))))) (mD (mOp gIx (mVar 0) (mD (mC (.int 1))))))))))
noncomputable def m_law_less : DEnv → Option (T × DEnv) := mFn 2 2 [0, 1] b_law_less
theorem ok_law_less {P : Program} {w : World} {K : PySem.W.Frag} {mg : Str → Option Value} {base : Heap} {f : Addr} {fd : FuncData} (F : Fun K "_law_less" "_law_less" s_law_less f fd) (hB : ∀ x : Str, blt.contains x = true → mg x = none) :
    FnOk P w K mg base CX0 1 f fd ["one", "other"] (spD K 2 m_law_less) :=
  fn_ok (rts := [0, 1]) (mb := b_law_less) F sc_law_less rfl rfl (by decide) fun cdv A outer s H E hr =>
    (sb_one (ss_ret (so_sv (sv_cmp od_lt (se_sv (sv_op od_mul (se_sv (sv_ix (se_var 0) (se_sv sv_int))) (se_sv (sv_ix (se_var 1) (se_sv sv_int))))) (se_sv (sv_op od_mul (se_sv (sv_ix (se_var 1) (se_sv sv_int))) (se_sv (sv_ix (se_var 0) (se_sv sv_int))))) (nomark _)))))
noncomputable def b_law_total : MS :=
    (mSeq (mAsg 1 (mTup (mL1 (mC (.int 0)) (mL1 (mC (.int 1)) mL0))))
    (mSeq (mFor (mSeqI (mSet (mVar 0))) (gN 2) (mAsg 1 (mFr (mCl m_law_add (mA1 (mVar 1) (mA1 (mVar 2) mA0))))))
    (mRet (mO (mSet (mVar 1))))))
noncomputable def m_law_total : DEnv → Option (T × DEnv) := mFn 1 3 [0] b_law_total
theorem ok_law_total {P : Program} {w : World} {K : PySem.W.Frag} {mg : Str → Option Value} {base : Heap} {f : Addr} {fd : FuncData} (F : Fun K "_law_total" "_law_total" s_law_total f fd) (hB : ∀ x : Str, blt.contains x = true → mg x = none) (hD_law_add : DefOk P w K mg base "_law_add" 3 ["one", "other"] m_law_add) :
    FnOk P w K mg base CX0 4 f fd ["numbers"] (spD K 1 m_law_total) :=
  fn_ok (rts := [0]) (mb := b_law_total) F sc_law_total rfl rfl (by decide) fun cdv A outer s H E hr =>
    (sb_cons (ss_asg 1 sc_law_total.nd (sv_tup (sl_cons sv_int (sl_cons sv_int sl_nil))))
      (sb_cons (ss_for PassesOwn.never rfl (si_seq (sv_se (se_var 0))) (sg_name 2 sc_law_total.nd) (sb_one (ss_asg 1 sc_law_total.nd (sv_so (so_callD hD_law_add (hr.mono (by decide)) (sa_cons (se_var 1) (sa_cons (se_var 2) sa_nil)) (mA_len (mA_len mA_len0)))))))
      (sb_one (ss_ret (so_sv (sv_se (se_var 1)))))))
noncomputable def b_law_word : MS :=
    (mRet (mO (mIf (mTV (mOp (gEq false) (mD (mOp gIx (mVar 0) (mD (mC (.int 1))))) (mD (mC (.int 1))))) (mCall gStr (mA1 (mD (mOp gIx (mVar 0) (mD (mC (.int 0))))) mA0)) (mOp gAdd (mD (mOp gAdd (mD (mCall gStr (mA1 (mD (mOp gIx (mVar 0) (mD (mC (.int 0))))) mA0))) (mD (mC (.str (Str.ofString "/")))))) (mD (mCall gStr (mA1 (mD (mOp gIx (mVar 0) (mD (mC (.int 1))))) mA0)))))))
noncomputable def m_law_word : DEnv → Option (T × DEnv) := mFn 1 1 [0] b_law_word
theorem ok_law_word {P : Program} {w : World} {K : PySem.W.Frag} {mg : Str → Option Value} {base : Heap} {f : Addr} {fd : FuncData} (F : Fun K "_law_word" "_law_word" s_law_word f fd) (hB : ∀ x : Str, blt.contains x = true → mg x = none) :
    FnOk P w K mg base CX0 1 f fd ["number"] (spD K 1 m_law_word) :=
  fn_ok (rts := [0]) (mb := b_law_word) F sc_law_word rfl rfl (by decide) fun cdv A outer s H E hr =>
    (sb_one (ss_ret (so_sv (sv_if (st_cmp (od_eq hr.units) (se_sv (sv_ix (se_var 0) (se_sv sv_int))) (se_sv sv_int) (nomark _)) (sv_callTy cd_str (hB "str" rfl) (by decide +kernel) (sa_cons (se_sv (sv_ix (se_var 0) (se_sv sv_int))) sa_nil)) (sv_op od_add (se_sv (sv_op od_add (se_sv (sv_callTy cd_str (hB "str" rfl) (by decide +kernel) (sa_cons (se_sv (sv_ix (se_var 0) (se_sv sv_int))) sa_nil))) (se_sv sv_str))) (se_sv (sv_callTy cd_str (hB "str" rfl) (by decide +kernel) (sa_cons (se_sv (sv_ix (se_var 0) (se_sv sv_int))) sa_nil))))))))
noncomputable def b_law_great : MS :=
    (mSeq (mAsg 1 (mFr (mCl m_law_take (mA1 (mVar 0) (mA1 (mD (mC (.int 4))) mA0)))))
    (mSeq (mIf (mTV (mOp (gEq false) (mVar 1) (mD (mC (.int 0))))) (mRet (mO (mOp (gII0 fun i j => i - j) (mD (mFr (mCl m_law_take (mA1 (mVar 0) (mA1 (mD (mC (.int 21))) mA0))))) (mD (mC (.int 10)))))) mNx)
    (mSeq (mIf (mTV (mOp (gEq false) (mVar 1) (mD (mC (.int 1))))) (mRet (mO (mOp (gII0 fun i j => i - j) (mD (mFr (mCl m_law_take (mA1 (mVar 0) (mA1 (mD (mOp gMul (mD (mC (.int 2))) (mD (mOp (gII powOk fun i j => i ^ j.toNat) (mD (mC (.int 10))) (mD (mC (.int 17))))))) mA0))))) (mD (mOp (gII powOk fun i j => i ^ j.toNat) (mD (mC (.int 10))) (mD (mC (.int 17)))))))) mNx)
    (mSeq (mAsg 2 (mOp gAdd (mD (mOp gAdd (mD (mOp gMul (mD (mFr (mCl m_law_take (mA1 (mVar 0) (mA1 (mD (mOp (gII powOk fun i j => i ^ j.toNat) (mD (mC (.int 10))) (mD (mC (.int 18))))) mA0))))) (mD (mOp (gII powOk fun i j => i ^ j.toNat) (mD (mC (.int 10))) (mD (mC (.int 42))))))) (mD (mOp gMul (mD (mFr (mCl m_law_take (mA1 (mVar 0) (mA1 (mD (mOp (gII powOk fun i j => i ^ j.toNat) (mD (mC (.int 10))) (mD (mC (.int 18))))) mA0))))) (mD (mOp (gII powOk fun i j => i ^ j.toNat) (mD (mC (.int 10))) (mD (mC (.int 20))))))))) (mD (mFr (mCl m_law_take (mA1 (mVar 0) (mA1 (mD (mOp (gII powOk fun i j => i ^ j.toNat) (mD (mC (.int 10))) (mD (mC (.int 9))))) mA0)))))))
    (mRet (mO (mIf (mTV (mOp (gEq false) (mD (mFr (mCl m_law_take (mA1 (mVar 0) (mA1 (mD (mC (.int 2))) mA0))))) (mD (mC (.int 0))))) (mUn gNeg (mVar 2)) (mSet (mVar 2)))))))))
noncomputable def m_law_great : DEnv → Option (T × DEnv) := mFn 1 3 [0] b_law_great
theorem ok_law_great {P : Program} {w : World} {K : PySem.W.Frag} {mg : Str → Option Value} {base : Heap} {f : Addr} {fd : FuncData} (F : Fun K "_law_great" "_law_great" s_law_great f fd) (hB : ∀ x : Str, blt.contains x = true → mg x = none) (hD_law_take : DefOk P w K mg base "_law_take" 1 ["state", "m"] m_law_take) :
    FnOk P w K mg base CX0 2 f fd ["state"] (spD K 1 m_law_great) :=
  fn_ok (rts := [0]) (mb := b_law_great) F sc_law_great rfl rfl (by decide) fun cdv A outer s H E hr =>
    (sb_cons (ss_asg 1 sc_law_great.nd (sv_so (so_callD hD_law_take (hr.mono (by decide)) (sa_cons (se_var 0) (sa_cons (se_sv sv_int) sa_nil)) (mA_len (mA_len mA_len0)))))
      (sb_cons (ss_if (st_cmp (od_eq hr.units) (se_var 1) (se_sv sv_int) (nomark _)) (sb_one (ss_ret (so_sv (sv_op od_sub (se_sv (sv_so (so_callD hD_law_take (hr.mono (by decide)) (sa_cons (se_var 0) (sa_cons (se_sv sv_int) sa_nil)) (mA_len (mA_len mA_len0))))) (se_sv sv_int))))) sb_nil)
      (sb_cons (ss_if (st_cmp (od_eq hr.units) (se_var 1) (se_sv sv_int) (nomark _)) (sb_one (ss_ret (so_sv (sv_op od_sub (se_sv (sv_so (so_callD hD_law_take (hr.mono (by decide)) (sa_cons (se_var 0) (sa_cons (se_sv (sv_op od_mul (se_sv sv_int) (se_sv (sv_op od_pow (se_sv sv_int) (se_sv sv_int))))) sa_nil)) (mA_len (mA_len mA_len0))))) (se_sv (sv_op od_pow (se_sv sv_int) (se_sv sv_int))))))) sb_nil)
      (sb_cons (ss_asg 2 sc_law_great.nd (sv_op od_add (se_sv (sv_op od_add (se_sv (sv_op od_mul (se_sv (sv_so (so_callD hD_law_take (hr.mono (by decide)) (sa_cons (se_var 0) (sa_cons (se_sv (sv_op od_pow (se_sv sv_int) (se_sv sv_int))) sa_nil)) (mA_len (mA_len mA_len0))))) (se_sv (sv_op od_pow (se_sv sv_int) (se_sv sv_int))))) (se_sv (sv_op od_mul (se_sv (sv_so (so_callD hD_law_take (hr.mono (by decide)) (sa_cons (se_var 0) (sa_cons (se_sv (sv_op od_pow (se_sv sv_int) (se_sv sv_int))) sa_nil)) (mA_len (mA_len mA_len0))))) (se_sv (sv_op od_pow (se_sv sv_int) (se_sv sv_int))))))) (se_sv (sv_so (so_callD hD_law_take (hr.mono (by decide)) (sa_cons (se_var 0) (sa_cons (se_sv (sv_op od_pow (se_sv sv_int) (se_sv sv_int))) sa_nil)) (mA_len (mA_len mA_len0)))))))
      (sb_one (ss_ret (so_sv (sv_if (st_cmp (od_eq hr.units) (se_sv (sv_so (so_callD hD_law_take (hr.mono (by decide)) (sa_cons (se_var 0) (sa_cons (se_sv sv_int) sa_nil)) (mA_len (mA_len mA_len0))))) (se_sv sv_int) (nomark _)) (sv_un ud_neg (se_var 2)) (sv_se (se_var 2))))))))))
noncomputable def b_law_fraction : MS :=
    (mSeq (mAsg 1 (mFr (mCl m_law_great (mA1 (mVar 0) mA0))))
    (mRet (mO (mFr (mCl m_law_ratio (mA1 (mD (mFr (mCl m_law_great (mA1 (mVar 0) mA0)))) (mA1 (mD (mIf (mTV (mOp (gEq true) (mVar 1) (mD (mC (.int 0))))) (mSet (mVar 1)) (mC (.int 7)))) mA0)))))))
noncomputable def m_law_fraction : DEnv → Option (T × DEnv) := mFn 1 2 [0] b_law_fraction
theorem ok_law_fraction {P : Program} {w : World} {K : PySem.W.Frag} {mg : Str → Option Value} {base : Heap} {f : Addr} {fd : FuncData} (F : Fun K "_law_fraction" "_law_fraction" s_law_fraction f fd) (hB : ∀ x : Str, blt.contains x = true → mg x = none) (hD_law_great : DefOk P w K mg base "_law_great" 2 ["state"] m_law_great) (hD_law_ratio : DefOk P w K mg base "_law_ratio" 2 ["top", "bottom"] m_law_ratio) :
    FnOk P w K mg base CX0 3 f fd ["state"] (spD K 1 m_law_fraction) :=
  fn_ok (rts := [0]) (mb := b_law_fraction) F sc_law_fraction rfl rfl (by decide) fun cdv A outer s H E hr =>
    (sb_cons (ss_asg 1 sc_law_fraction.nd (sv_so (so_callD hD_law_great (hr.mono (by decide)) (sa_cons (se_var 0) sa_nil) (mA_len mA_len0))))
      (sb_one (ss_ret (so_sv (sv_so (so_callD hD_law_ratio (hr.mono (by decide)) (sa_cons (se_sv (sv_so (so_callD hD_law_great (hr.mono (by decide)) (sa_cons (se_var 0) sa_nil) (mA_len mA_len0)))) (sa_cons (se_sv (sv_if (st_cmp (od_ne hr.units) (se_var 1) (se_sv sv_int) (nomark _)) (sv_se (se_var 1)) sv_int)) sa_nil)) (mA_len (mA_len mA_len0))))))))
noncomputable def b_law_values : MS :=
    (mSeq (mAsgG (gT 2 (gN1 (gN 1) (gN1 (gN 2) gN0))) (mSet (mVar 0)))
    (mSeq (mAsg 3 (mFr (mLst (mL1 (mTup (mL1 (mOp gMul (mD (mC (.int 2))) (mVar 1)) (mL1 (mOp gMul (mD (mC (.int 2))) (mVar 2)) mL0))) (mL1 (mTup (mL1 (mSet (mVar 1)) (mL1 (mUn gNeg (mVar 2)) mL0))) (mL1 (mTup (mL1 (mSet (mVar 1)) (mL1 (mC (.int 0)) mL0))) (mL1 (mFr (mLst (mL1 (mSet (mVar 1)) (mL1 (mSet (mVar 2)) mL0)))) (mL1 (mTup (mL1 (mSet (mVar 1)) mL0)) (mL1 (mTup (mL1 (mSet (mVar 1)) (mL1 (mSet (mVar 2)) (mL1 (mC (.int 1)) mL0)))) (mL1 (mCall gStr (mA1 (mVar 1) mA0)) (mL1 (mC .none) (mL1 (mSet (mVar 1)) (mL1 (mTup (mL1 (mC (.bool true)) (mL1 (mC (.int 1)) mL0))) (mL1 (mTup (mL1 (mC (.int 1)) (mL1 (mC (.bool true)) mL0))) (mL1 (mTup (mL1 (mC (.int 0)) (mL1 (mC (.int 2)) mL0))) (mL1 (mTup (mL1 (mC (.str (Str.ofString "1"))) (mL1 (mC (.str (Str.ofString "2"))) mL0))) (mL1 (mTup (mL1 (mTup (mL1 (mC (.int 1)) (mL1 (mC (.int 1)) mL0))) (mL1 (mC (.int 1)) mL0))) mL0)))))))))))))))))
    (mRet (mO (mOp gAdd (mVar 3) (mD (mFr (mLst (mL1 (mTup (mL1 (mOp gMul (mD (mC (.int 3))) (mVar 1)) (mL1 (mOp gMul (mD (mC (.int 3))) (mVar 2)) mL0))) (mL1 (mTup (mL1 (mUn gNeg (mD (mC (.int 2)))) (mL1 (mC (.int 4)) mL0))) (mL1 mDict0 (mL1 (mC (.bool true)) mL0))))))))))))
noncomputable def m_law_values : DEnv → Option (T × DEnv) := mFn 1 4 [0] b_law_values
theorem ok_law_values {P : Program} {w : World} {K : PySem.W.Frag} {mg : Str → Option Value} {base : Heap} {f : Addr} {fd : FuncData} (F : Fun K "_law_values" "_law_values" s_law_values f fd) (hB : ∀ x : Str, blt.contains x = true → mg x = none) :
    FnOk P w K mg base CX0 1 f fd ["one"] (spD K 1 m_law_values) :=
  fn_ok (rts := [0]) (mb := b_law_values) F sc_law_values rfl rfl (by decide) fun cdv A outer s H E hr =>
    (sb_cons (ss_asgG (sv_se (se_var 0)) (sg_tup rfl (sgs_cons (sg_name 1 sc_law_values.nd) (sgs_cons (sg_name 2 sc_law_values.nd) sgs_nil))))
      (sb_cons (ss_asg 3 sc_law_values.nd (sv_so (so_lst (sl_cons (sv_tup (sl_cons (sv_op od_mul (se_sv sv_int) (se_var 1)) (sl_cons (sv_op od_mul (se_sv sv_int) (se_var 2)) sl_nil))) (sl_cons (sv_tup (sl_cons (sv_se (se_var 1)) (sl_cons (sv_un ud_neg (se_var 2)) sl_nil))) (sl_cons (sv_tup (sl_cons (sv_se (se_var 1)) (sl_cons sv_int sl_nil))) (sl_cons (sv_so (so_lst (sl_cons (sv_se (se_var 1)) (sl_cons (sv_se (se_var 2)) sl_nil)))) (sl_cons (sv_tup (sl_cons (sv_se (se_var 1)) sl_nil)) (sl_cons (sv_tup (sl_cons (sv_se (se_var 1)) (sl_cons (sv_se (se_var 2)) (sl_cons sv_int sl_nil)))) (sl_cons (sv_callTy cd_str (hB "str" rfl) (by decide +kernel) (sa_cons (se_var 1) sa_nil)) (sl_cons sv_non (sl_cons (sv_se (se_var 1)) (sl_cons (sv_tup (sl_cons sv_bl (sl_cons sv_int sl_nil))) (sl_cons (sv_tup (sl_cons sv_int (sl_cons sv_bl sl_nil))) (sl_cons (sv_tup (sl_cons sv_int (sl_cons sv_int sl_nil))) (sl_cons (sv_tup (sl_cons sv_str (sl_cons sv_str sl_nil))) (sl_cons (sv_tup (sl_cons (sv_tup (sl_cons sv_int (sl_cons sv_int sl_nil))) (sl_cons sv_int sl_nil))) sl_nil)))))))))))))))))
      (sb_one (ss_ret (so_sv (sv_op od_add (se_var 3) (se_sv (sv_so (so_lst (sl_cons (sv_tup (sl_cons (sv_op od_mul (se_sv sv_int) (se_var 1)) (sl_cons (sv_op od_mul (se_sv sv_int) (se_var 2)) sl_nil))) (sl_cons (sv_tup (sl_cons (sv_un ud_neg (se_sv sv_int)) (sl_cons sv_int sl_nil))) (sl_cons sv_dict0 (sl_cons sv_bl sl_nil)))))))))))))
noncomputable def b_law : MS :=
    (mSeq (mAsgO 1 (mCl m_law_start (mA1 (mVar 0) mA0)))
    (mSeq (mFor (mRng1 (mL1 (mC (.int 4)) mL0)) (gN 2) (mSeq (mPar3 3 4 5 (mL1 (mFr (mCl m_law_great (mA1 (mVar 1) mA0))) (mL1 (mFr (mCl m_law_great (mA1 (mVar 1) mA0))) (mL1 (mOp gAdd (mD (mC (.int 1))) (mD (mFr (mCl m_law_take (mA1 (mVar 1) (mA1 (mD (mOp (gII powOk fun i j => i ^ j.toNat) (mD (mC (.int 10))) (mD (mC (.int 6))))) mA0)))))) mL0))))
    (mSeq (mIf (mNotT (mTV (mFr (mCl m_law_same (mA1 (mD (mFr (mCl m_gcd (mA1 (mD (mOp gMul (mVar 3) (mVar 5))) (mA1 (mD (mOp gMul (mVar 4) (mVar 5))) mA0))))) (mA1 (mD (mOp gMul (mVar 5) (mD (mFr (mCl m_law_gcd (mA1 (mVar 3) (mA1 (mVar 4) mA0))))))) mA0)))))) (mRet (mO (mC (.bool false)))) mNx)
    (mSeq (mIf (mAndT (mTV (mOp (gEq true) (mVar 4) (mD (mC (.int 0))))) (mNotT (mTV (mFr (mCl m_law_same (mA1 (mD (mFr (mLst (mL1 (mFr (mCl m_ratio (mA1 (mD (mOp gMul (mVar 3) (mVar 5))) (mA1 (mD (mOp gMul (mVar 4) (mVar 5))) mA0)))) (mL1 (mFr (mCl m_ratio (mA1 (mVar 3) (mA1 (mD (mUn gNeg (mVar 4))) mA0)))) mL0))))) (mA1 (mD (mFr (mLst (mL1 (mFr (mCl m_law_ratio (mA1 (mVar 3) (mA1 (mVar 4) mA0)))) (mL1 (mFr (mCl m_law_ratio (mA1 (mD (mUn gNeg (mVar 3))) (mA1 (mVar 4) mA0)))) mL0))))) mA0))))))) (mRet (mO (mC (.bool false)))) mNx)
    (mSeq (mPar 6 7 (mL1 (mFr (mCl m_law_fraction (mA1 (mVar 1) mA0))) (mL1 (mFr (mCl m_law_fraction (mA1 (mVar 1) mA0))) mL0)))
    (mSeq (mIf (mTV (mOp (gEq false) (mD (mFr (mCl m_law_take (mA1 (mVar 1) (mA1 (mD (mC (.int 4))) mA0))))) (mD (mC (.int 0))))) (mAsg 7 (mIf (mTV (mOp (gEq false) (mD (mFr (mCl m_law_take (mA1 (mVar 1) (mA1 (mD (mC (.int 2))) mA0))))) (mD (mC (.int 0))))) (mSet (mVar 6)) (mFr (mCl m_law_neg (mA1 (mVar 6) mA0))))) mNx)
    (mSeq (mAsg 8 (mFr (mLst (mL1 (mFr (mCl m_law_add (mA1 (mVar 6) (mA1 (mVar 7) mA0)))) (mL1 (mFr (mCl m_law_sub (mA1 (mVar 6) (mA1 (mVar 7) mA0)))) (mL1 (mFr (mCl m_law_mul (mA1 (mVar 6) (mA1 (mVar 7) mA0)))) (mL1 (mFr (mCl m_law_neg (mA1 (mVar 6) mA0))) (mL1 (mTup (mL1 (mCall gAbs (mA1 (mD (mOp gIx (mVar 6) (mD (mC (.int 0))))) mA0)) (mL1 (mOp gIx (mVar 6) (mD (mC (.int 1)))) mL0))) (mL1 (mFr (mCl m_law_less (mA1 (mVar 6) (mA1 (mVar 7) mA0)))) (mL1 (mFr (mCl m_law_less (mA1 (mVar 7) (mA1 (mVar 6) mA0)))) mL0))))))))))
    (mSeq (mIf (mNotT (mTV (mFr (mCl m_law_same (mA1 (mD (mFr (mLst (mL1 (mFr (mCl m_add (mA1 (mVar 6) (mA1 (mVar 7) mA0)))) (mL1 (mFr (mCl m_sub (mA1 (mVar 6) (mA1 (mVar 7) mA0)))) (mL1 (mFr (mCl m_mul (mA1 (mVar 6) (mA1 (mVar 7) mA0)))) (mL1 (mFr (mCl m_neg (mA1 (mVar 6) mA0))) (mL1 (mFr (mCl m_size (mA1 (mVar 6) mA0))) (mL1 (mFr (mCl m_below (mA1 (mVar 6) (mA1 (mVar 7) mA0)))) (mL1 (mFr (mCl m_below (mA1 (mVar 7) (mA1 (mVar 6) mA0)))) mL0)))))))))) (mA1 (mVar 8) mA0)))))) (mRet (mO (mC (.bool false)))) mNx)
    (mSeq (mIf (mAndT (mTV (mOp (gEq true) (mD (mOp gIx (mVar 7) (mD (mC (.int 0))))) (mD (mC (.int 0))))) (mNotT (mTV (mFr (mCl m_law_same (mA1 (mD (mFr (mLst (mL1 (mFr (mCl m_div (mA1 (mVar 6) (mA1 (mVar 7) mA0)))) (mL1 (mFr (mCl m_mul (mA1 (mD (mFr (mCl m_div (mA1 (mVar 6) (mA1 (mVar 7) mA0))))) (mA1 (mVar 7) mA0)))) mL0))))) (mA1 (mD (mFr (mLst (mL1 (mFr (mCl m_law_div (mA1 (mVar 6) (mA1 (mVar 7) mA0)))) (mL1 (mSet (mVar 6)) mL0))))) mA0))))))) (mRet (mO (mC (.bool false)))) mNx)
    (mSeq (mAsg 9 (mFr (mLc [12] (mRng1 (mL1 (mFr (mCl m_law_take (mA1 (mVar 1) (mA1 (mD (mC (.int 7))) mA0)))) mL0)) (gN 12) mYes (mFr (mCl m_law_fraction (mA1 (mVar 1) mA0))))))
    (mSeq (mIf (mNotT (mTV (mFr (mCl m_law_same (mA1 (mD (mFr (mLst (mL1 (mFr (mCl m_total (mA1 (mVar 9) mA0))) (mL1 (mFr (mCl m_total (mA1 (mD (mOp gAdd (mD (mCall gTuple (mA1 (mVar 9) mA0))) (mD (mTup (mL1 (mSet (mVar 6)) (mL1 (mFr (mCl m_law_neg (mA1 (mVar 6) mA0))) mL0)))))) mA0))) mL0))))) (mA1 (mD (mOp gMul (mD (mFr (mLst (mL1 (mFr (mCl m_law_total (mA1 (mVar 9) mA0))) mL0)))) (mD (mC (.int 2))))) mA0)))))) (mRet (mO (mC (.bool false)))) mNx)
    (mSeq (mIf (mOrT (mTV (mOp (gIs true) (mD (mFr (mCl m_is_fraction (mA1 (mVar 6) mA0)))) (mD (mC (.bool true))))) (mTV (mOp (gIs true) (mD (mFr (mCl m_is_fraction (mA1 (mD (mTup (mL1 (mC (.int 0)) (mL1 (mC (.int 1)) mL0)))) mA0)))) (mD (mC (.bool true)))))) (mRet (mO (mC (.bool false)))) mNx)
    (mSeq (mIf (mTV (mOp (gEq true) (mD (mFr (mLc [13] (mSeqI (mFr (mCl m_law_values (mA1 (mVar 6) mA0)))) (gN 13) (mTV (mOp (gIs true) (mD (mFr (mCl m_is_fraction (mA1 (mVar 13) mA0)))) (mD (mC (.bool false))))) (mSet (mVar 13))))) (mD (mFr (mLst mL0))))) (mRet (mO (mC (.bool false)))) mNx)
    (mSeq (mAsg 10 (mFr (mCl m_law_ratio (mA1 (mD (mOp (gII0 fun i j => i - j) (mD (mOp (gII (fun _ j => decide (j ≠ 0)) fun i j => i.fmod j) (mD (mCall gInt (mA1 (mVar 3) mA0))) (mD (mC (.int 2401))))) (mD (mC (.int 1200))))) (mA1 (mD (mOp gAdd (mD (mC (.int 1))) (mD (mOp (gII (fun _ j => decide (j ≠ 0)) fun i j => i.fmod j) (mD (mCall gInt (mA1 (mVar 4) mA0))) (mD (mC (.int 1200))))))) mA0)))))
    (mFor (mSeqI (mFr (mLst (mL1 (mSet (mVar 6)) (mL1 (mSet (mVar 10)) mL0))))) (gN 11) (mSeq (mAsg 8 (mIf (mAndT (mTV (mOp (gIB fun i j => decide (i ≤ j)) (mD (mCall gAbs (mA1 (mD (mOp gIx (mVar 11) (mD (mC (.int 0))))) mA0))) (mD (mC (.int 1000))))) (mTV (mOp (gIB fun i j => decide (i ≤ j)) (mD (mOp gIx (mVar 11) (mD (mC (.int 1))))) (mD (mC (.int 1000)))))) (mSet (mVar 11)) (mC .none)))
    (mIf (mNotT (mTV (mFr (mCl m_law_same (mA1 (mD (mFr (mLst (mL1 (mFr (mCl m_number_text (mA1 (mVar 11) mA0))) (mL1 (mFr (mCl m_number_of (mA1 (mD (mFr (mCl m_number_text (mA1 (mVar 11) mA0)))) mA0))) mL0))))) (mA1 (mD (mFr (mLst (mL1 (mFr (mCl m_law_word (mA1 (mVar 11) mA0))) (mL1 (mSet (mVar 8)) mL0))))) mA0)))))) (mRet (mO (mC (.bool false)))) mNx)))))))))))))))))
    (mRet (mO (mC (.bool true))))))
noncomputable def m_law : DEnv → Option (T × DEnv) := mFn 1 14 [0] b_law
theorem ok_law {P : Program} {w : World} {K : PySem.W.Frag} {mg : Str → Option Value} {base : Heap} {f : Addr} {fd : FuncData} (F : Fun K "law" "law" s_law f fd) (hB : ∀ x : Str, blt.contains x = true → mg x = none) (hD_law_start : DefOk P w K mg base "_law_start" 1 ["script"] m_law_start) (hD_law_take : DefOk P w K mg base "_law_take" 1 ["state", "m"] m_law_take) (hD_law_great : DefOk P w K mg base "_law_great" 2 ["state"] m_law_great) (hD_law_gcd : DefOk P w K mg base "_law_gcd" 1 ["one", "other"] m_law_gcd) (hD_gcd : DefOk P w K mg base "gcd" 1 ["one", "other"] m_gcd) (hD_law_same : DefOk P w K mg base "_law_same" 8 ["one", "two"] m_law_same) (hD_law_ratio : DefOk P w K mg base "_law_ratio" 2 ["top", "bottom"] m_law_ratio) (hD_ratio : DefOk P w K mg base "ratio" 2 ["p", "q"] m_ratio) (hD_law_fraction : DefOk P w K mg base "_law_fraction" 3 ["state"] m_law_fraction) (hD_law_neg : DefOk P w K mg base "_law_neg" 1 ["one"] m_law_neg) (hD_law_less : DefOk P w K mg base "_law_less" 1 ["one", "other"] m_law_less) (hD_law_mul : DefOk P w K mg base "_law_mul" 3 ["one", "other"] m_law_mul) (hD_law_sub : DefOk P w K mg base "_law_sub" 4 ["one", "other"] m_law_sub) (hD_law_add : DefOk P w K mg base "_law_add" 3 ["one", "other"] m_law_add) (hD_below : DefOk P w K mg base "below" 1 ["one", "other"] m_below) (hD_size : DefOk P w K mg base "size" 1 ["one"] m_size) (hD_neg : DefOk P w K mg base "neg" 1 ["one"] m_neg) (hD_mul : DefOk P w K mg base "mul" 3 ["one", "other"] m_mul) (hD_sub : DefOk P w K mg base "sub" 3 ["one", "other"] m_sub) (hD_add : DefOk P w K mg base "add" 3 ["one", "other"] m_add) (hD_law_div : DefOk P w K mg base "_law_div" 3 ["one", "other"] m_law_div) (hD_div : DefOk P w K mg base "div" 3 ["one", "other"] m_div) (hD_law_total : DefOk P w K mg base "_law_total" 4 ["numbers"] m_law_total) (hD_total : DefOk P w K mg base "total" 4 ["numbers"] m_total) (hD_is_fraction : DefOk P w K mg base "is_fraction" 2 ["value"] m_is_fraction) (hD_law_values : DefOk P w K mg base "_law_values" 1 ["one"] m_law_values) (hD_law_word : DefOk P w K mg base "_law_word" 1 ["number"] m_law_word) (hD_number_text : DefOk P w K mg base "number_text" 1 ["number"] m_number_text) (hD_number_of : DefOk P w K mg base "number_of" 2 ["word"] m_number_of) :
    FnOk P w K mg base CX0 9 f fd ["script"] (spD K 1 m_law) :=
  fn_ok (rts := [0]) (mb := b_law) F sc_law rfl rfl (by decide) fun cdv A outer s H E hr =>
    (sb_cons (ss_asgO 1 sc_law.nd (so_callD hD_law_start (hr.mono (by decide)) (sa_cons (se_var 0) sa_nil) (mA_len mA_len0)))
      (sb_cons (ss_for PassesOwn.never rfl (si_range1 (hB "range" rfl) (sl_cons sv_int sl_nil)) (sg_name 2 sc_law.nd) (sb_cons (ss_par3 3 4 5 rfl sc_law.nd (sl_cons (sv_so (so_callD hD_law_great (hr.mono (by decide)) (sa_cons (se_var 1) sa_nil) (mA_len mA_len0))) (sl_cons (sv_so (so_callD hD_law_great (hr.mono (by decide)) (sa_cons (se_var 1) sa_nil) (mA_len mA_len0))) (sl_cons (sv_op od_add (se_sv sv_int) (se_sv (sv_so (so_callD hD_law_take (hr.mono (by decide)) (sa_cons (se_var 1) (sa_cons (se_sv (sv_op od_pow (se_sv sv_int) (se_sv sv_int))) sa_nil)) (mA_len (mA_len mA_len0)))))) sl_nil))))
      (sb_cons (ss_if (st_not (st_val (sv_so (so_callD hD_law_same (hr.mono (by decide)) (sa_cons (se_sv (sv_so (so_callD hD_gcd (hr.mono (by decide)) (sa_cons (se_sv (sv_op od_mul (se_var 3) (se_var 5))) (sa_cons (se_sv (sv_op od_mul (se_var 4) (se_var 5))) sa_nil)) (mA_len (mA_len mA_len0))))) (sa_cons (se_sv (sv_op od_mul (se_var 5) (se_sv (sv_so (so_callD hD_law_gcd (hr.mono (by decide)) (sa_cons (se_var 3) (sa_cons (se_var 4) sa_nil)) (mA_len (mA_len mA_len0))))))) sa_nil)) (mA_len (mA_len mA_len0)))))) (sb_one (ss_ret (so_sv sv_bl))) sb_nil)
      (sb_cons (ss_if (st_sw (sw_and (st_cmp (od_ne hr.units) (se_var 4) (se_sv sv_int) (nomark _)) (sw_and1 (st_not (st_val (sv_so (so_callD hD_law_same (hr.mono (by decide)) (sa_cons (se_sv (sv_so (so_lst (sl_cons (sv_so (so_callD hD_ratio (hr.mono (by decide)) (sa_cons (se_sv (sv_op od_mul (se_var 3) (se_var 5))) (sa_cons (se_sv (sv_op od_mul (se_var 4) (se_var 5))) sa_nil)) (mA_len (mA_len mA_len0)))) (sl_cons (sv_so (so_callD hD_ratio (hr.mono (by decide)) (sa_cons (se_var 3) (sa_cons (se_sv (sv_un ud_neg (se_var 4))) sa_nil)) (mA_len (mA_len mA_len0)))) sl_nil))))) (sa_cons (se_sv (sv_so (so_lst (sl_cons (sv_so (so_callD hD_law_ratio (hr.mono (by decide)) (sa_cons (se_var 3) (sa_cons (se_var 4) sa_nil)) (mA_len (mA_len mA_len0)))) (sl_cons (sv_so (so_callD hD_law_ratio (hr.mono (by decide)) (sa_cons (se_sv (sv_un ud_neg (se_var 3))) (sa_cons (se_var 4) sa_nil)) (mA_len (mA_len mA_len0)))) sl_nil))))) sa_nil)) (mA_len (mA_len mA_len0))))))))) (sb_one (ss_ret (so_sv sv_bl))) sb_nil)
      (sb_cons (ss_par 6 7 rfl sc_law.nd (sl_cons (sv_so (so_callD hD_law_fraction (hr.mono (by decide)) (sa_cons (se_var 1) sa_nil) (mA_len mA_len0))) (sl_cons (sv_so (so_callD hD_law_fraction (hr.mono (by decide)) (sa_cons (se_var 1) sa_nil) (mA_len mA_len0))) sl_nil)))
      (sb_cons (ss_if (st_cmp (od_eq hr.units) (se_sv (sv_so (so_callD hD_law_take (hr.mono (by decide)) (sa_cons (se_var 1) (sa_cons (se_sv sv_int) sa_nil)) (mA_len (mA_len mA_len0))))) (se_sv sv_int) (nomark _)) (sb_one (ss_asg 7 sc_law.nd (sv_if (st_cmp (od_eq hr.units) (se_sv (sv_so (so_callD hD_law_take (hr.mono (by decide)) (sa_cons (se_var 1) (sa_cons (se_sv sv_int) sa_nil)) (mA_len (mA_len mA_len0))))) (se_sv sv_int) (nomark _)) (sv_se (se_var 6)) (sv_so (so_callD hD_law_neg (hr.mono (by decide)) (sa_cons (se_var 6) sa_nil) (mA_len mA_len0)))))) sb_nil)
      (sb_cons (ss_asg 8 sc_law.nd (sv_so (so_lst (sl_cons (sv_so (so_callD hD_law_add (hr.mono (by decide)) (sa_cons (se_var 6) (sa_cons (se_var 7) sa_nil)) (mA_len (mA_len mA_len0)))) (sl_cons (sv_so (so_callD hD_law_sub (hr.mono (by decide)) (sa_cons (se_var 6) (sa_cons (se_var 7) sa_nil)) (mA_len (mA_len mA_len0)))) (sl_cons (sv_so (so_callD hD_law_mul (hr.mono (by decide)) (sa_cons (se_var 6) (sa_cons (se_var 7) sa_nil)) (mA_len (mA_len mA_len0)))) (sl_cons (sv_so (so_callD hD_law_neg (hr.mono (by decide)) (sa_cons (se_var 6) sa_nil) (mA_len mA_len0))) (sl_cons (sv_tup (sl_cons (sv_callB cd_abs (hB "abs" rfl) (by decide +kernel) (sa_cons (se_sv (sv_ix (se_var 6) (se_sv sv_int))) sa_nil)) (sl_cons (sv_ix (se_var 6) (se_sv sv_int)) sl_nil))) (sl_cons (sv_so (so_callD hD_law_less (hr.mono (by decide)) (sa_cons (se_var 6) (sa_cons (se_var 7) sa_nil)) (mA_len (mA_len mA_len0)))) (sl_cons (sv_so (so_callD hD_law_less (hr.mono (by decide)) (sa_cons (se_var 7) (sa_cons (se_var 6) sa_nil)) (mA_len (mA_len mA_len0)))) sl_nil))))))))))
      (sb_cons (ss_if (st_not (st_val (sv_so (so_callD hD_law_same (hr.mono (by decide)) (sa_cons (se_sv (sv_so (so_lst (sl_cons (sv_so (so_callD hD_add (hr.mono (by decide)) (sa_cons (se_var 6) (sa_cons (se_var 7) sa_nil)) (mA_len (mA_len mA_len0)))) (sl_cons (sv_so (so_callD hD_sub (hr.mono (by decide)) (sa_cons (se_var 6) (sa_cons (se_var 7) sa_nil)) (mA_len (mA_len mA_len0)))) (sl_cons (sv_so (so_callD hD_mul (hr.mono (by decide)) (sa_cons (se_var 6) (sa_cons (se_var 7) sa_nil)) (mA_len (mA_len mA_len0)))) (sl_cons (sv_so (so_callD hD_neg (hr.mono (by decide)) (sa_cons (se_var 6) sa_nil) (mA_len mA_len0))) (sl_cons (sv_so (so_callD hD_size (hr.mono (by decide)) (sa_cons (se_var 6) sa_nil) (mA_len mA_len0))) (sl_cons (sv_so (so_callD hD_below (hr.mono (by decide)) (sa_cons (se_var 6) (sa_cons (se_var 7) sa_nil)) (mA_len (mA_len mA_len0)))) (sl_cons (sv_so (so_callD hD_below (hr.mono (by decide)) (sa_cons (se_var 7) (sa_cons (se_var 6) sa_nil)) (mA_len (mA_len mA_len0)))) sl_nil)))))))))) (sa_cons (se_var 8) sa_nil)) (mA_len (mA_len mA_len0)))))) (sb_one (ss_ret (so_sv sv_bl))) sb_nil)
      (sb_cons (ss_if (st_sw (sw_and (st_cmp (od_ne hr.units) (se_sv (sv_ix (se_var 7) (se_sv sv_int))) (se_sv sv_int) (nomark _)) (sw_and1 (st_not (st_val (sv_so (so_callD hD_law_same (hr.mono (by decide)) (sa_cons (se_sv (sv_so (so_lst (sl_cons (sv_so (so_callD hD_div (hr.mono (by decide)) (sa_cons (se_var 6) (sa_cons (se_var 7) sa_nil)) (mA_len (mA_len mA_len0)))) (sl_cons (sv_so (so_callD hD_mul (hr.mono (by decide)) (sa_cons (se_sv (sv_so (so_callD hD_div (hr.mono (by decide)) (sa_cons (se_var 6) (sa_cons (se_var 7) sa_nil)) (mA_len (mA_len mA_len0))))) (sa_cons (se_var 7) sa_nil)) (mA_len (mA_len mA_len0)))) sl_nil))))) (sa_cons (se_sv (sv_so (so_lst (sl_cons (sv_so (so_callD hD_law_div (hr.mono (by decide)) (sa_cons (se_var 6) (sa_cons (se_var 7) sa_nil)) (mA_len (mA_len mA_len0)))) (sl_cons (sv_se (se_var 6)) sl_nil))))) sa_nil)) (mA_len (mA_len mA_len0))))))))) (sb_one (ss_ret (so_sv sv_bl))) sb_nil)
      (sb_cons (ss_asgLcD 9 (own := [("place", 12)]) 14 rfl rfl sc_law.nd (sw_true rfl rfl rfl (by decide +kernel)) (si_range1 (hB "range" rfl) (sl_cons (sv_so (so_callD hD_law_take (hr.mono (by decide)) (sa_cons (se_var 1) (sa_cons (se_sv sv_int) sa_nil)) (mA_len (mA_len mA_len0)))) sl_nil)) (blkOk_by (N := ["script", "state", "turn", "a", "b", "shared", "one", "other", "due", "numbers", "small", "number", "place", "value"]) (sc := defScope s_law) (by decide +kernel)) (fun _ _ _ _ _ => (sg_name 12 sc_law.nd)) (fun _ _ _ _ _ => sts_nil) (fun _ _ _ _ _ => (sv_so (so_callD hD_law_fraction (hr.mono (by decide)) (sa_cons (se_var 1) sa_nil) (mA_len mA_len0)))))
      (sb_cons (ss_if (st_not (st_val (sv_so (so_callD hD_law_same (hr.mono (by decide)) (sa_cons (se_sv (sv_so (so_lst (sl_cons (sv_so (so_callD hD_total (hr.mono (by decide)) (sa_cons (se_var 9) sa_nil) (mA_len mA_len0))) (sl_cons (sv_so (so_callD hD_total (hr.mono (by decide)) (sa_cons (se_sv (sv_op od_add (se_sv (sv_callTy cd_tuple (hB "tuple" rfl) (by decide +kernel) (sa_cons (se_var 9) sa_nil))) (se_sv (sv_tup (sl_cons (sv_se (se_var 6)) (sl_cons (sv_so (so_callD hD_law_neg (hr.mono (by decide)) (sa_cons (se_var 6) sa_nil) (mA_len mA_len0))) sl_nil)))))) sa_nil) (mA_len mA_len0))) sl_nil))))) (sa_cons (se_sv (sv_op od_mul (se_sv (sv_so (so_lst (sl_cons (sv_so (so_callD hD_law_total (hr.mono (by decide)) (sa_cons (se_var 9) sa_nil) (mA_len mA_len0))) sl_nil)))) (se_sv sv_int))) sa_nil)) (mA_len (mA_len mA_len0)))))) (sb_one (ss_ret (so_sv sv_bl))) sb_nil)
      (sb_cons (ss_if (st_sw (sw_or (st_cmp od_isnt (se_sv (sv_so (so_callD hD_is_fraction (hr.mono (by decide)) (sa_cons (se_var 6) sa_nil) (mA_len mA_len0)))) (se_sv sv_bl) (nomark _)) (sw_or1 (st_cmp od_isnt (se_sv (sv_so (so_callD hD_is_fraction (hr.mono (by decide)) (sa_cons (se_sv (sv_tup (sl_cons sv_int (sl_cons sv_int sl_nil)))) sa_nil) (mA_len mA_len0)))) (se_sv sv_bl) (nomark _))))) (sb_one (ss_ret (so_sv sv_bl))) sb_nil)
      (sb_cons (ss_if (st_cmp (od_ne hr.units) (se_sv (sv_so (so_lc (own := [("value", 13)]) 14 rfl rfl sc_law.nd (si_seq (sv_so (so_callD hD_law_values (hr.mono (by decide)) (sa_cons (se_var 6) sa_nil) (mA_len mA_len0)))) (blkOk_by (N := ["script", "state", "turn", "a", "b", "shared", "one", "other", "due", "numbers", "small", "number", "place", "value"]) (sc := defScope s_law) (by decide +kernel)) (fun _ _ _ _ _ => (sg_name 13 sc_law.nd)) (fun _ _ _ _ _ => (sts_one (st_cmp od_isnt (se_sv (sv_so (so_callD hD_is_fraction (hr.mono (by decide)) (sa_cons (se_var 13) sa_nil) (mA_len mA_len0)))) (se_sv sv_bl) (nomark _)))) (fun _ _ _ _ _ => (sv_se (se_var 13)))))) (se_sv (sv_so (so_lst sl_nil))) (nomark _)) (sb_one (ss_ret (so_sv sv_bl))) sb_nil)
      (sb_cons (ss_asg 10 sc_law.nd (sv_so (so_callD hD_law_ratio (hr.mono (by decide)) (sa_cons (se_sv (sv_op od_sub (se_sv (sv_op od_mod (se_sv (sv_callTy cd_int (hB "int" rfl) (by decide +kernel) (sa_cons (se_var 3) sa_nil))) (se_sv sv_int))) (se_sv sv_int))) (sa_cons (se_sv (sv_op od_add (se_sv sv_int) (se_sv (sv_op od_mod (se_sv (sv_callTy cd_int (hB "int" rfl) (by decide +kernel) (sa_cons (se_var 4) sa_nil))) (se_sv sv_int))))) sa_nil)) (mA_len (mA_len mA_len0)))))
      (sb_one (ss_for PassesOwn.never rfl (si_seq (sv_so (so_lst (sl_cons (sv_se (se_var 6)) (sl_cons (sv_se (se_var 10)) sl_nil))))) (sg_name 11 sc_law.nd) (sb_cons (ss_asg 8 sc_law.nd (sv_if (st_sw (sw_and (st_cmp od_le (se_sv (sv_callB cd_abs (hB "abs" rfl) (by decide +kernel) (sa_cons (se_sv (sv_ix (se_var 11) (se_sv sv_int))) sa_nil))) (se_sv sv_int) (nomark _)) (sw_and1 (st_cmp od_le (se_sv (sv_ix (se_var 11) (se_sv sv_int))) (se_sv sv_int) (nomark _))))) (sv_se (se_var 11)) sv_non))
      (sb_one (ss_if (st_not (st_val (sv_so (so_callD hD_law_same (hr.mono (by decide)) (sa_cons (se_sv (sv_so (so_lst (sl_cons (sv_so (so_callD hD_number_text (hr.mono (by decide)) (sa_cons (se_var 11) sa_nil) (mA_len mA_len0))) (sl_cons (sv_so (so_callD hD_number_of (hr.mono (by decide)) (sa_cons (se_sv (sv_so (so_callD hD_number_text (hr.mono (by decide)) (sa_cons (se_var 11) sa_nil) (mA_len mA_len0)))) sa_nil) (mA_len mA_len0))) sl_nil))))) (sa_cons (se_sv (sv_so (so_lst (sl_cons (sv_so (so_callD hD_law_word (hr.mono (by decide)) (sa_cons (se_var 11) sa_nil) (mA_len mA_len0))) (sl_cons (sv_se (se_var 8)) sl_nil))))) sa_nil)) (mA_len (mA_len mA_len0)))))) (sb_one (ss_ret (so_sv sv_bl))) sb_nil)))))))))))))))))))
      (sb_one (ss_ret (so_sv sv_bl)))))
end K00
-- K00A
namespace K00
open PySem L2 Sem Num PyProof.Rows
local macro_rules | `(tactic| walk_at "sx") => `(tactic| try simp only [wv0d, wv0l, wv0s, wv1d, wv1l, wv1s, wv2d, wv2l, wv2s, wv3d, wv3l, wv3s, wv4d, wv4l, wv4s, wv5d, wv5l, wv5s, wv6d, wv6l, wv6s, wv7d, wv7l, wv7s, wv8d, wv8l, wv8s, wv9d, wv9l, wv9s, wv10d, wv10l, wv10s, wv11d, wv11l, wv11s, wv12d, wv12l, wv12s, wv13d, wv13l, wv13s, wv14d, wv14l, wv14s, wv15d, wv15l, wv15s, wv16d, wv16l, wv16s, wv17d, wv17l, wv17s, wv18d, wv18l, wv18s, wv19d, wv19l, wv19s, wv20d, wv20l, wv20s, wv21d, wv21l, wv21s, wv22d, wv22l, wv22s, wv23d, wv23l, wv23s, wp_C, wp_D, wp_Set, wp_Fr, wp_O, wp_Op, wp_TV, wp_Chain, wp_Un, wp_AndT, wp_OrT, wp_NotT, wp_AndV, wp_OrV, wp_NotV, wp_If, wp_A0, wp_A1, wp_L0, wp_L1, wp_Tup, wp_Lst, wp_Call, wp_Nx, wp_Bk, wp_Ct, wp_No, wp_Seq, wp_Asg, wp_AsgO, wp_AsgG, wp_Par, wp_Par3, wp_SetIx, wp_Mt, wp_Drop, wp_Ret, wp_RetN, wp_RetV, wp_Tru, wp_Isi, wp_Part, wp_NoPart, wp_Sl, wp_MS, wp_Dict0, wp_SeqI, wp_StrI, wp_Rng1, wp_For, wp_Lc, wp_Yes, wp_Cl, isTy_bool_n, isTy_bool_b, isTy_bool_i, isTy_bool_s, isTy_bool_l, isTy_bool_t, isTy_bool_d, isTy_int_n, isTy_int_b, isTy_int_i, isTy_int_s, isTy_int_l, isTy_int_t, isTy_int_d, isTy_str_n, isTy_str_b, isTy_str_i, isTy_str_s, isTy_str_l, isTy_str_t, isTy_str_d, isTy_list_n, isTy_list_b, isTy_list_i, isTy_list_s, isTy_list_l, isTy_list_t, isTy_list_d, isTy_tuple_n, isTy_tuple_b, isTy_tuple_i, isTy_tuple_s, isTy_tuple_l, isTy_tuple_t, isTy_tuple_d, isTy_dict_n, isTy_dict_b, isTy_dict_i, isTy_dict_s, isTy_dict_l, isTy_dict_t, isTy_dict_d, optP_some, optP_ite, optP_map, rd_dat, rd_loc, rdL_nil, rdL_cons, gAdd_ii, gAdd_ss, gAdd_ll, gAdd_tt, gMul_ii, gMul_li, gII_ii, gII0_ii, gIB_ii, gNeg_i, gEq_fii, gEq_tii, gEq_fbb, gIs_fn, gIs_tn, gIs_fb, gIs_tb, isNone_none, isNone_int, isNone_tuple, isNone_str, gTru_b, gTru_i, gTru_n, gTru_l, gTru_t, gTru_s, atI_0, atI_1, atI_2, atI_3, atI_4, atI_5, gIx_l, gIx_t, gIx_s, gAbs_i, gMin_ii, gInt_i, gInt_b, gInt_s, gStr_i, gLen_s, gLen_l, gLen_t, gTuple_l, gTuple_t, gAny_l, gAll_l, frT_dat, frT_lst, asLoc_loc, asInt_int, asStr_str, seqOf_l, seqOf_t, gN_eq, gN0_eq, gN1_eq, gT_eq, argsT_nil, argsT_cons, argT_dat, argT_loc, putBack_nil, putBack_dat, putBack_loc, distinct_nil, distinct_dat, distinct_loc, hasLoc_nil, hasLoc_dat, hasLoc_loc, lstAt, List.getElem?_cons_zero, List.getElem?_cons_succ, List.set_cons_zero, List.set_cons_succ, List.length_cons, List.length_nil, true_and, and_true])
/-! ### gcd -/
theorem wh_gcd (a b : Int) (mt : MT) (hmt : ∀ x y : Nat, ∀ Q : Bool → DEnv → Prop, Q (decide (y ≠ 0)) [some (.dat (.int x)), some (.dat (.int y))] → wp mt [some (.dat (.int x)), some (.dat (.int y))] Q) (mb : MS) (hmb : ∀ x y : Nat, y ≠ 0 → ∀ Q : Out → DEnv → Prop, Q .nx [some (.dat (.int y)), some (.dat (.int ((x % y : Nat) : Int)))] → wp mb [some (.dat (.int x)), some (.dat (.int y))] Q)
    {Q : Out → DEnv → Prop} : ∀ x y : Nat, Q .nx [some (.dat (.int (Nat.gcd x y : Nat))), some (.dat (.int 0))] → wp (mWh mt mb) [some (.dat (.int x)), some (.dat (.int y))] Q := fun x y q => by
  refine wp_wh (fun n ρ => ∃ x' y' : Nat, ρ = [some (.dat (.int x')), some (.dat (.int y'))] ∧ y' = n ∧ Nat.gcd x' y' = Nat.gcd x y) (fun n ρ h => ?_) y _ ⟨x, y, rfl, rfl, rfl⟩
  obtain ⟨x', y', rfl, rfl, hg⟩ := h
  refine hmt x' y' _ ?_
  by_cases hy : y' = 0
  · subst hy
    simp only [ne_eq, not_true_eq_false, decide_false]
    rw [Nat.gcd_zero_right] at hg
    rw [← hg] at q
    exact q
  · simp only [ne_eq, hy, not_false_eq_true, decide_true]
    refine hmb x' y' hy _ ?_
    refine ⟨x' % y', Nat.mod_lt _ (Nat.pos_of_ne_zero hy), y', x' % y', rfl, rfl, ?_⟩
    rw [← hg, Nat.gcd_comm x' y', Nat.gcd_rec y' x', Nat.gcd_comm]
theorem abs_nat (a : Int) : (if a < 0 then -a else a) = (a.natAbs : Int) := by split <;> omega
theorem fmod_nat (x y : Nat) : (x : Int).fmod (y : Int) = ((x % y : Nat) : Int) := by
  rw [Int.fmod_eq_emod_of_nonneg _ (by omega)]
  rfl
theorem e_gcd (a b : Int) : m_gcd [some (.dat (.int a)), some (.dat (.int b))] = some (.dat (.int (Int.gcd a b : Nat)), [none, none]) := by
  refine of_wp ?_
  unfold m_gcd
  rw [wp_Fn]
  refine ⟨rfl, ?_⟩
  show wp b_gcd [some (.dat (.int a)), some (.dat (.int b))] _
  unfold b_gcd
  walk_at "sx"
  rw [abs_nat, abs_nat]
  refine wh_gcd a b _ (fun x y Q q => ?_) _ (fun x y hy Q q => ?_) _ _ ?_
  · walk_at "sx"
    have : ((y : Int) != 0) = decide (y ≠ 0) := by
      by_cases h : y = 0
      · subst h; rfl
      · have h2 : (y : Int) ≠ 0 := by omega
        rw [bne_iff_ne.mpr h2, decide_eq_true h]
    rw [this]
    exact q
  · walk_at "sx"
    refine ⟨decide_eq_true (by omega), ?_⟩
    rw [fmod_nat]
    exact q
  · walk_at "sx"
    exact ⟨rfl, rfl⟩
theorem e_law_gcd (a b : Int) : m_law_gcd [some (.dat (.int a)), some (.dat (.int b))] = some (.dat (.int (Int.gcd a b : Nat)), [none, none]) := by
  refine of_wp ?_
  unfold m_law_gcd
  rw [wp_Fn]
  refine ⟨rfl, ?_⟩
  show wp b_law_gcd [some (.dat (.int a)), some (.dat (.int b))] _
  unfold b_law_gcd
  walk_at "sx"
  rw [abs_nat, abs_nat]
  refine wh_gcd a b _ (fun x y Q q => ?_) _ (fun x y hy Q q => ?_) _ _ ?_
  · walk_at "sx"
    have : (!((y : Int) == 0)) = decide (y ≠ 0) := by
      by_cases h : y = 0
      · subst h; rfl
      · have h2 : (y : Int) ≠ 0 := by omega
        rw [beq_eq_false_iff_ne.mpr h2, decide_eq_true h]
        rfl
    rw [this]
    exact q
  · walk_at "sx"
    refine ⟨decide_eq_true (by omega), ?_⟩
    rw [fmod_nat]
    exact q
  · walk_at "sx"
    exact ⟨rfl, rfl⟩
end K00
-- K00B
namespace K00
open PySem L2 Sem Num PyProof.Rows
local macro_rules | `(tactic| walk_at "sx") => `(tactic| try simp only [wv0d, wv0l, wv0s, wv1d, wv1l, wv1s, wv2d, wv2l, wv2s, wv3d, wv3l, wv3s, wv4d, wv4l, wv4s, wv5d, wv5l, wv5s, wv6d, wv6l, wv6s, wv7d, wv7l, wv7s, wv8d, wv8l, wv8s, wv9d, wv9l, wv9s, wv10d, wv10l, wv10s, wv11d, wv11l, wv11s, wv12d, wv12l, wv12s, wv13d, wv13l, wv13s, wv14d, wv14l, wv14s, wv15d, wv15l, wv15s, wv16d, wv16l, wv16s, wv17d, wv17l, wv17s, wv18d, wv18l, wv18s, wv19d, wv19l, wv19s, wv20d, wv20l, wv20s, wv21d, wv21l, wv21s, wv22d, wv22l, wv22s, wv23d, wv23l, wv23s, wp_C, wp_D, wp_Set, wp_Fr, wp_O, wp_Op, wp_TV, wp_Chain, wp_Un, wp_AndT, wp_OrT, wp_NotT, wp_AndV, wp_OrV, wp_NotV, wp_If, wp_A0, wp_A1, wp_L0, wp_L1, wp_Tup, wp_Lst, wp_Call, wp_Nx, wp_Bk, wp_Ct, wp_No, wp_Seq, wp_Asg, wp_AsgO, wp_AsgG, wp_Par, wp_Par3, wp_SetIx, wp_Mt, wp_Drop, wp_Ret, wp_RetN, wp_RetV, wp_Tru, wp_Isi, wp_Part, wp_NoPart, wp_Sl, wp_MS, wp_Dict0, wp_SeqI, wp_StrI, wp_Rng1, wp_For, wp_Lc, wp_Yes, wp_Cl, isTy_bool_n, isTy_bool_b, isTy_bool_i, isTy_bool_s, isTy_bool_l, isTy_bool_t, isTy_bool_d, isTy_int_n, isTy_int_b, isTy_int_i, isTy_int_s, isTy_int_l, isTy_int_t, isTy_int_d, isTy_str_n, isTy_str_b, isTy_str_i, isTy_str_s, isTy_str_l, isTy_str_t, isTy_str_d, isTy_list_n, isTy_list_b, isTy_list_i, isTy_list_s, isTy_list_l, isTy_list_t, isTy_list_d, isTy_tuple_n, isTy_tuple_b, isTy_tuple_i, isTy_tuple_s, isTy_tuple_l, isTy_tuple_t, isTy_tuple_d, isTy_dict_n, isTy_dict_b, isTy_dict_i, isTy_dict_s, isTy_dict_l, isTy_dict_t, isTy_dict_d, optP_some, optP_ite, optP_map, rd_dat, rd_loc, rdL_nil, rdL_cons, gAdd_ii, gAdd_ss, gAdd_ll, gAdd_tt, gMul_ii, gMul_li, gII_ii, gII0_ii, gIB_ii, gNeg_i, gEq_fii, gEq_tii, gEq_fbb, gIs_fn, gIs_tn, gIs_fb, gIs_tb, isNone_none, isNone_int, isNone_tuple, isNone_str, gTru_b, gTru_i, gTru_n, gTru_l, gTru_t, gTru_s, atI_0, atI_1, atI_2, atI_3, atI_4, atI_5, gIx_l, gIx_t, gIx_s, gAbs_i, gMin_ii, gInt_i, gInt_b, gInt_s, gStr_i, gLen_s, gLen_l, gLen_t, gTuple_l, gTuple_t, gAny_l, gAll_l, frT_dat, frT_lst, asLoc_loc, asInt_int, asStr_str, seqOf_l, seqOf_t, gN_eq, gN0_eq, gN1_eq, gT_eq, argsT_nil, argsT_cons, argT_dat, argT_loc, putBack_nil, putBack_dat, putBack_loc, distinct_nil, distinct_dat, distinct_loc, hasLoc_nil, hasLoc_dat, hasLoc_loc, lstAt, List.getElem?_cons_zero, List.getElem?_cons_succ, List.set_cons_zero, List.set_cons_succ, List.length_cons, List.length_nil, true_and, and_true])
def frD (x : Fr) : PyData := .tuple [.int x.1, .int x.2]
theorem e_ratio (p q : Int) {k : Nat} (h : q ≠ 0) (hb : Bd k q) (hk : k < 9000) : m_ratio [some (.dat (.int p)), some (.dat (.int q))] = some (.dat (frD (ratI p q)), [some (.dat (.int p)), some (.dat (.int q))]) := by
  refine of_wp ?_
  unfold m_ratio
  rw [wp_Fn]
  refine ⟨rfl, ?_⟩
  show wp b_ratio [some (.dat (.int p)), some (.dat (.int q)), none] _
  have hg := gcd_pos (p := p) h
  have hgb : Bd k ((Int.gcd p q : Nat) : Int) := hb.le (by have := gcd_le (p := p) h; omega)
  unfold b_ratio
  walk_at "sx"
  rw [wp_eq (e_gcd p q)]
  walk_at "sx"
  by_cases hq : q < 0
  · simp only [hq, decide_true]
    walk_at "sx"
    refine ⟨divOk_of (by omega) hgb.neg hk, divOk_of (by omega) hgb.neg hk, rfl, ?_, rfl⟩
    show T.dat (PyData.tuple _) = T.dat (frD (ratI p q))
    unfold frD ratI
    simp only [if_pos hq]
  · simp only [hq, decide_false]
    walk_at "sx"
    refine ⟨divOk_of (by omega) hgb hk, divOk_of (by omega) hgb hk, rfl, ?_, rfl⟩
    show T.dat (PyData.tuple _) = T.dat (frD (ratI p q))
    unfold frD ratI
    simp only [if_neg hq]
theorem e_add {k l : Nat} {x y : Fr} (hx : FB k x) (hy : FB l y) (hk : k + l < 9000) : m_add [some (.dat (frD x)), some (.dat (frD y))] = some (.dat (frD (addF x y)), [some (.dat (frD x)), some (.dat (frD y))]) := by
  refine of_wp ?_
  unfold m_add
  rw [wp_Fn]
  refine ⟨rfl, ?_⟩
  show wp b_add [some (.dat (frD x)), some (.dat (frD y))] _
  unfold b_add
  simp only [frD]
  walk_at "sx"
  refine ⟨mulOk_of hx.2.1 hy.2.2 (by omega), mulOk_of hy.2.1 hx.2.2 (by omega), mulOk_of hx.2.2 hy.2.2 (by omega), ?_⟩
  rw [wp_eq (e_ratio _ _ (mul_ne hx.ne hy.ne) (hx.2.2.mul hy.2.2) hk)]
  exact ⟨rfl, rfl⟩
theorem e_mul {k l : Nat} {x y : Fr} (hx : FB k x) (hy : FB l y) (hk : k + l < 9000) : m_mul [some (.dat (frD x)), some (.dat (frD y))] = some (.dat (frD (mulF x y)), [some (.dat (frD x)), some (.dat (frD y))]) := by
  refine of_wp ?_
  unfold m_mul
  rw [wp_Fn]
  refine ⟨rfl, ?_⟩
  show wp b_mul [some (.dat (frD x)), some (.dat (frD y))] _
  unfold b_mul
  simp only [frD]
  walk_at "sx"
  refine ⟨mulOk_of hx.2.1 hy.2.1 (by omega), mulOk_of hx.2.2 hy.2.2 (by omega), ?_⟩
  rw [wp_eq (e_ratio _ _ (mul_ne hx.ne hy.ne) (hx.2.2.mul hy.2.2) hk)]
  exact ⟨rfl, rfl⟩
theorem e_div {k l : Nat} {x y : Fr} (hx : FB k x) (hy : FB l y) (h : y.1 ≠ 0) (hk : k + l < 9000) : m_div [some (.dat (frD x)), some (.dat (frD y))] = some (.dat (frD (divF x y)), [some (.dat (frD x)), some (.dat (frD y))]) := by
  refine of_wp ?_
  unfold m_div
  rw [wp_Fn]
  refine ⟨rfl, ?_⟩
  show wp b_div [some (.dat (frD x)), some (.dat (frD y))] _
  unfold b_div
  simp only [frD]
  walk_at "sx"
  refine ⟨mulOk_of hx.2.1 hy.2.2 (by omega), mulOk_of hx.2.2 hy.2.1 (by omega), ?_⟩
  rw [wp_eq (e_ratio _ _ (mul_ne hx.ne h) (hx.2.2.mul hy.2.1) hk)]
  exact ⟨rfl, rfl⟩
theorem e_neg {x : Fr} : m_neg [some (.dat (frD x))] = some (.dat (frD (negF x)), [some (.dat (frD x))]) := by
  refine of_wp ?_
  unfold m_neg
  rw [wp_Fn]
  refine ⟨rfl, ?_⟩
  show wp b_neg [some (.dat (frD x))] _
  unfold b_neg
  simp only [frD]
  walk_at "sx"
  exact ⟨rfl, rfl, rfl⟩
theorem e_law_ratio (p q : Int) {k : Nat} (h : q ≠ 0) (hb : Bd k q) (hk : k < 9000) : m_law_ratio [some (.dat (.int p)), some (.dat (.int q))] = some (.dat (frD (ratI p q)), [some (.dat (.int p)), some (.dat (.int q))]) := by
  refine of_wp ?_
  unfold m_law_ratio
  rw [wp_Fn]
  refine ⟨rfl, ?_⟩
  show wp b_law_ratio [some (.dat (.int p)), some (.dat (.int q)), none] _
  have hg := gcd_pos (p := p) h
  have hgb : Bd k ((Int.gcd p q : Nat) : Int) := hb.le (by have := gcd_le (p := p) h; omega)
  unfold b_law_ratio
  walk_at "sx"
  rw [wp_eq (e_law_gcd p q)]
  walk_at "sx"
  by_cases hq : q < 0
  · simp only [hq, decide_true]
    walk_at "sx"
    refine ⟨divOk_of (by omega) hgb.neg hk, divOk_of (by omega) hgb.neg hk, rfl, ?_, rfl⟩
    show T.dat (PyData.tuple _) = T.dat (frD (ratI p q))
    unfold frD ratI
    simp only [if_pos hq]
  · simp only [hq, decide_false]
    walk_at "sx"
    refine ⟨divOk_of (by omega) hgb hk, divOk_of (by omega) hgb hk, rfl, ?_, rfl⟩
    show T.dat (PyData.tuple _) = T.dat (frD (ratI p q))
    unfold frD ratI
    simp only [if_neg hq]
theorem e_law_add {k l : Nat} {x y : Fr} (hx : FB k x) (hy : FB l y) (hk : k + l < 9000) : m_law_add [some (.dat (frD x)), some (.dat (frD y))] = some (.dat (frD (addF x y)), [some (.dat (frD x)), some (.dat (frD y))]) := by
  refine of_wp ?_
  unfold m_law_add
  rw [wp_Fn]
  refine ⟨rfl, ?_⟩
  show wp b_law_add [some (.dat (frD x)), some (.dat (frD y))] _
  unfold b_law_add
  simp only [frD]
  walk_at "sx"
  refine ⟨mulOk_of hx.2.1 hy.2.2 (by omega), mulOk_of hy.2.1 hx.2.2 (by omega), mulOk_of hx.2.2 hy.2.2 (by omega), ?_⟩
  rw [wp_eq (e_law_ratio _ _ (mul_ne hx.ne hy.ne) (hx.2.2.mul hy.2.2) hk)]
  exact ⟨rfl, rfl⟩
theorem e_law_mul {k l : Nat} {x y : Fr} (hx : FB k x) (hy : FB l y) (hk : k + l < 9000) : m_law_mul [some (.dat (frD x)), some (.dat (frD y))] = some (.dat (frD (mulF x y)), [some (.dat (frD x)), some (.dat (frD y))]) := by
  refine of_wp ?_
  unfold m_law_mul
  rw [wp_Fn]
  refine ⟨rfl, ?_⟩
  show wp b_law_mul [some (.dat (frD x)), some (.dat (frD y))] _
  unfold b_law_mul
  simp only [frD]
  walk_at "sx"
  refine ⟨mulOk_of hx.2.1 hy.2.1 (by omega), mulOk_of hx.2.2 hy.2.2 (by omega), ?_⟩
  rw [wp_eq (e_law_ratio _ _ (mul_ne hx.ne hy.ne) (hx.2.2.mul hy.2.2) hk)]
  exact ⟨rfl, rfl⟩
theorem e_law_div {k l : Nat} {x y : Fr} (hx : FB k x) (hy : FB l y) (h : y.1 ≠ 0) (hk : k + l < 9000) : m_law_div [some (.dat (frD x)), some (.dat (frD y))] = some (.dat (frD (divF x y)), [some (.dat (frD x)), some (.dat (frD y))]) := by
  refine of_wp ?_
  unfold m_law_div
  rw [wp_Fn]
  refine ⟨rfl, ?_⟩
  show wp b_law_div [some (.dat (frD x)), some (.dat (frD y))] _
  unfold b_law_div
  simp only [frD]
  walk_at "sx"
  refine ⟨mulOk_of hx.2.1 hy.2.2 (by omega), mulOk_of hx.2.2 hy.2.1 (by omega), ?_⟩
  rw [wp_eq (e_law_ratio _ _ (mul_ne hx.ne h) (hx.2.2.mul hy.2.1) hk)]
  exact ⟨rfl, rfl⟩
theorem e_law_neg {x : Fr} : m_law_neg [some (.dat (frD x))] = some (.dat (frD (negF x)), [some (.dat (frD x))]) := by
  refine of_wp ?_
  unfold m_law_neg
  rw [wp_Fn]
  refine ⟨rfl, ?_⟩
  show wp b_law_neg [some (.dat (frD x))] _
  unfold b_law_neg
  simp only [frD]
  walk_at "sx"
  exact ⟨rfl, rfl, rfl⟩
theorem e_size {x : Fr} : m_size [some (.dat (frD x))] = some (.dat (frD ((x.1.natAbs : Int), x.2)), [some (.dat (frD x))]) := by
  refine of_wp ?_
  unfold m_size
  rw [wp_Fn]
  refine ⟨rfl, ?_⟩
  show wp b_size [some (.dat (frD x))] _
  unfold b_size
  simp only [frD]
  walk_at "sx"
  rw [abs_nat]
  exact ⟨rfl, rfl, rfl⟩
theorem e_sub {k l : Nat} {x y : Fr} (hx : FB k x) (hy : FB l y) (hk : k + l < 9000) : m_sub [some (.dat (frD x)), some (.dat (frD y))] = some (.dat (frD (subF x y)), [some (.dat (frD x)), some (.dat (frD y))]) := by
  refine of_wp ?_
  unfold m_sub
  rw [wp_Fn]
  refine ⟨rfl, ?_⟩
  show wp b_sub [some (.dat (frD x)), some (.dat (frD y))] _
  unfold b_sub
  simp only [frD]
  walk_at "sx"
  refine ⟨mulOk_of hx.2.1 hy.2.2 (by omega), mulOk_of hy.2.1 hx.2.2 (by omega), mulOk_of hx.2.2 hy.2.2 (by omega), ?_⟩
  rw [wp_eq (e_ratio _ _ (mul_ne hx.ne hy.ne) (hx.2.2.mul hy.2.2) hk)]
  exact ⟨rfl, rfl⟩
theorem subF_eq (x y : Fr) : addF x (negF y) = subF x y := by
  unfold addF subF negF
  simp only [Int.neg_mul, ← Int.sub_eq_add_neg]
theorem e_law_sub {k l : Nat} {x y : Fr} (hx : FB k x) (hy : FB l y) (hk : k + l < 9000) : m_law_sub [some (.dat (frD x)), some (.dat (frD y))] = some (.dat (frD (subF x y)), [some (.dat (frD x)), some (.dat (frD y))]) := by
  refine of_wp ?_
  unfold m_law_sub
  rw [wp_Fn]
  refine ⟨rfl, ?_⟩
  show wp b_law_sub [some (.dat (frD x)), some (.dat (frD y))] _
  unfold b_law_sub
  walk_at "sx"
  rw [wp_eq e_law_neg]
  walk_at "sx"
  rw [wp_eq (e_law_add hx hy.neg hk), subF_eq]
  exact ⟨rfl, rfl⟩
def lessF (x y : Fr) : Bool := decide (x.1 * y.2 < y.1 * x.2)
theorem e_less {k l : Nat} {x y : Fr} (hx : FB k x) (hy : FB l y) (hk : k + l < 9000) : m_below [some (.dat (frD x)), some (.dat (frD y))] = some (.dat (.bool (lessF x y)), [some (.dat (frD x)), some (.dat (frD y))]) := by
  refine of_wp ?_
  unfold m_below
  rw [wp_Fn]
  refine ⟨rfl, ?_⟩
  show wp b_below [some (.dat (frD x)), some (.dat (frD y))] _
  unfold b_below
  simp only [frD]
  walk_at "sx"
  exact ⟨mulOk_of hx.2.1 hy.2.2 (by omega), mulOk_of hy.2.1 hx.2.2 (by omega), rfl, rfl⟩
theorem e_law_less {k l : Nat} {x y : Fr} (hx : FB k x) (hy : FB l y) (hk : k + l < 9000) : m_law_less [some (.dat (frD x)), some (.dat (frD y))] = some (.dat (.bool (lessF x y)), [some (.dat (frD x)), some (.dat (frD y))]) := by
  refine of_wp ?_
  unfold m_law_less
  rw [wp_Fn]
  refine ⟨rfl, ?_⟩
  show wp b_law_less [some (.dat (frD x)), some (.dat (frD y))] _
  unfold b_law_less
  simp only [frD]
  walk_at "sx"
  exact ⟨mulOk_of hx.2.1 hy.2.2 (by omega), mulOk_of hy.2.1 hx.2.2 (by omega), rfl, rfl⟩
def totF (xs : List Fr) : Fr := xs.foldl addF (0, 1)
theorem w_total (xs : List Fr) (zs : T) (rest : List (Option T)) {Q : Out → DEnv → Prop} : ∀ (ys : List Fr) (a : Fr) (k : Nat) (o : Option T), FB k a → (∀ y ∈ ys, FB 200 y) → k + 201 * ys.length < 8000 → (∀ o' : Option T, Q .nx [some zs, some (.dat (frD (ys.foldl addF a))), o']) →
    wp (mForL (gN 2) (mAsg 1 (mFr (mCl m_add (mA1 (mVar 1) (mA1 (mVar 2) mA0))))) (ys.map frD)) [some zs, some (.dat (frD a)), o] Q
  | [], a, k, o, _, _, _, q => q o
  | y :: ys, a, k, o, ha, hy, hk, q => by
    have hy0 := hy y (by simp)
    rw [List.length_cons] at hk
    rw [List.map_cons, wp_ForCons]
    walk_at "sx"
    rw [wp_eq (e_add ha hy0 (by omega))]
    walk_at "sx"
    exact w_total xs zs rest ys (addF a y) (k + 200 + 1) _ (ha.add hy0) (fun z hz => hy z (by simp [hz])) (by omega) q
theorem w_law_total (xs : List Fr) (zs : T) (rest : List (Option T)) {Q : Out → DEnv → Prop} : ∀ (ys : List Fr) (a : Fr) (k : Nat) (o : Option T), FB k a → (∀ y ∈ ys, FB 200 y) → k + 201 * ys.length < 8000 → (∀ o' : Option T, Q .nx [some zs, some (.dat (frD (ys.foldl addF a))), o']) →
    wp (mForL (gN 2) (mAsg 1 (mFr (mCl m_law_add (mA1 (mVar 1) (mA1 (mVar 2) mA0))))) (ys.map frD)) [some zs, some (.dat (frD a)), o] Q
  | [], a, k, o, _, _, _, q => q o
  | y :: ys, a, k, o, ha, hy, hk, q => by
    have hy0 := hy y (by simp)
    rw [List.length_cons] at hk
    rw [List.map_cons, wp_ForCons]
    walk_at "sx"
    rw [wp_eq (e_law_add ha hy0 (by omega))]
    walk_at "sx"
    exact w_law_total xs zs rest ys (addF a y) (k + 200 + 1) _ (ha.add hy0) (fun z hz => hy z (by simp [hz])) (by omega) q
end K00
-- K00C
namespace K00
open PySem L2 Sem Num PyProof.Rows SX Txs
local macro_rules | `(tactic| walk_at "sx") => `(tactic| try simp only [wv0d, wv0l, wv0s, wv1d, wv1l, wv1s, wv2d, wv2l, wv2s, wv3d, wv3l, wv3s, wv4d, wv4l, wv4s, wv5d, wv5l, wv5s, wv6d, wv6l, wv6s, wv7d, wv7l, wv7s, wv8d, wv8l, wv8s, wv9d, wv9l, wv9s, wv10d, wv10l, wv10s, wv11d, wv11l, wv11s, wv12d, wv12l, wv12s, wv13d, wv13l, wv13s, wv14d, wv14l, wv14s, wv15d, wv15l, wv15s, wv16d, wv16l, wv16s, wv17d, wv17l, wv17s, wv18d, wv18l, wv18s, wv19d, wv19l, wv19s, wv20d, wv20l, wv20s, wv21d, wv21l, wv21s, wv22d, wv22l, wv22s, wv23d, wv23l, wv23s, wp_C, wp_D, wp_Set, wp_Fr, wp_O, wp_Op, wp_TV, wp_Chain, wp_Un, wp_AndT, wp_OrT, wp_NotT, wp_AndV, wp_OrV, wp_NotV, wp_If, wp_A0, wp_A1, wp_L0, wp_L1, wp_Tup, wp_Lst, wp_Call, wp_Nx, wp_Bk, wp_Ct, wp_No, wp_Seq, wp_Asg, wp_AsgO, wp_AsgG, wp_Par, wp_Par3, wp_SetIx, wp_Mt, wp_Drop, wp_Ret, wp_RetN, wp_RetV, wp_Tru, wp_Isi, wp_Part, wp_NoPart, wp_Sl, wp_MS, wp_Dict0, wp_SeqI, wp_StrI, wp_Rng1, wp_For, wp_Lc, wp_Yes, wp_Cl, isTy_bool_n, isTy_bool_b, isTy_bool_i, isTy_bool_s, isTy_bool_l, isTy_bool_t, isTy_bool_d, isTy_int_n, isTy_int_b, isTy_int_i, isTy_int_s, isTy_int_l, isTy_int_t, isTy_int_d, isTy_str_n, isTy_str_b, isTy_str_i, isTy_str_s, isTy_str_l, isTy_str_t, isTy_str_d, isTy_list_n, isTy_list_b, isTy_list_i, isTy_list_s, isTy_list_l, isTy_list_t, isTy_list_d, isTy_tuple_n, isTy_tuple_b, isTy_tuple_i, isTy_tuple_s, isTy_tuple_l, isTy_tuple_t, isTy_tuple_d, isTy_dict_n, isTy_dict_b, isTy_dict_i, isTy_dict_s, isTy_dict_l, isTy_dict_t, isTy_dict_d, optP_some, optP_ite, optP_map, rd_dat, rd_loc, rdL_nil, rdL_cons, gAdd_ii, gAdd_ss, gAdd_ll, gAdd_tt, gMul_ii, gMul_li, gII_ii, gII0_ii, gIB_ii, gNeg_i, gEq_fii, gEq_tii, gEq_fbb, gIs_fn, gIs_tn, gIs_fb, gIs_tb, isNone_none, isNone_int, isNone_tuple, isNone_str, gTru_b, gTru_i, gTru_n, gTru_l, gTru_t, gTru_s, atI_0, atI_1, atI_2, atI_3, atI_4, atI_5, gIx_l, gIx_t, gIx_s, gAbs_i, gMin_ii, gInt_i, gInt_b, gInt_s, gStr_i, gLen_s, gLen_l, gLen_t, gTuple_l, gTuple_t, gAny_l, gAll_l, frT_dat, frT_lst, asLoc_loc, asInt_int, asStr_str, seqOf_l, seqOf_t, gN_eq, gN0_eq, gN1_eq, gT_eq, argsT_nil, argsT_cons, argT_dat, argT_loc, putBack_nil, putBack_dat, putBack_loc, distinct_nil, distinct_dat, distinct_loc, hasLoc_nil, hasLoc_dat, hasLoc_loc, lstAt, List.getElem?_cons_zero, List.getElem?_cons_succ, List.set_cons_zero, List.set_cons_succ, List.length_cons, List.length_nil, true_and, and_true])
theorem c_minus : Str.ofString "-" = S [45] := rfl
theorem c_zero : Str.ofString "0" = S [48] := rfl
theorem c_slash : Str.ofString "/" = S [47] := rfl
theorem ok_num {n : Nat} : okS (TL.numL n) := fun c hc => by have := numL_dig hc; omega
theorem ok_zL {p : Int} : okS (zL p) := fun c hc => by
  unfold zL at hc
  split at hc
  · rcases List.mem_cons.mp hc with e | hc
    · omega
    · have := numL_dig hc; omega
  · have := numL_dig hc; omega
theorem ok_45 : okS [45] := fun c hc => by simp at hc; omega
theorem ok_48 : okS [48] := fun c hc => by simp at hc; omega
theorem gIn_dig {c : Nat} (h : 48 ≤ c ∧ c ≤ 57) : gIn false (.str (S [c])) c_DIGITS = some (.bool true) := by
  have : c = 48 ∨ c = 49 ∨ c = 50 ∨ c = 51 ∨ c = 52 ∨ c = 53 ∨ c = 54 ∨ c = 55 ∨ c = 56 ∨ c = 57 := by omega
  rcases this with h | h | h | h | h | h | h | h | h | h <;> subst h <;> rfl
theorem w_digs {x y : Option T} : ∀ (cs : List Nat) {Q : List PyData → DEnv → Prop}, (∀ c ∈ cs, 48 ≤ c ∧ c ≤ 57) → Q ((cs.map fun _ => true).map PyData.bool) [x, y, none] → wp (mLcL [2] (gN 2) mYes (mOp (gIn false) (mVar 2) (mD (mC c_DIGITS))) (signsOf (S cs))) [x, y, none] Q
  | [], Q, _, q => q
  | c :: cs, Q, h, q => by
    rw [show signsOf (S (c :: cs)) = .str (S [c]) :: signsOf (S cs) from rfl, wp_LcCons]
    have hc := gIn_dig (h c (by simp))
    walk_at "sx"
    rw [hc, optP_some]
    exact w_digs cs (fun z hz => h z (by simp [hz])) q
def wholeF (p : Int) : PyData := if p.natAbs < 10000 then .int p else .none
theorem numF_len {n : Nat} : decide ((1 : Int) ≤ ((TL.numL n).length : Int)) = true := by
  have := numL_len1 n
  exact decide_eq_true (by omega)
theorem take1 {n : Nat} : ∃ c r, TL.numL n = c :: r ∧ 48 ≤ c ∧ c ≤ 57 ∧ (c = 48 → n = 0) := by
  cases e : TL.numL n with
  | nil => exact absurd e (TL.numL_ne n)
  | cons c r =>
    have h := numL_dig (n := n) (c := c) (by rw [e]; simp)
    refine ⟨c, r, rfl, h.1, h.2, fun hc => ?_⟩
    refine Decidable.byContradiction fun hn => numL_headne n hn ?_
    rw [e, hc]
    rfl
theorem e_whole_of (p : Int) (hp : p.natAbs.log2 < 1920) : m_whole_of [some (.dat (.str (S (zL p))))] = some (.dat (wholeF p), [some (.dat (.str (S (zL p))))]) := by
  have hl := zL_len hp
  have hl2 := numL_len_log hp
  have hsm : small (zL p).length = true := small_of (by omega)
  have hsd : small (TL.numL p.natAbs).length = true := small_of (by omega)
  obtain ⟨c, r, hcr, hc1, hc2, hc3⟩ := take1 (n := p.natAbs)
  refine wp_fn rfl ?_
  show wp b_whole_of [some (.dat (.str (S (zL p)))), none, none] _
  unfold b_whole_of
  refine wp_seq [some (.dat (.str (S (zL p)))), some (.dat (.str (S (TL.numL p.natAbs)))), none] ?_ ?_
  · walk_at "sx"
    rw [gSl_to (by decide) hsm, optP_some, c_minus, gEq_fSS (fun c hc => ok_zL c (List.mem_of_mem_take hc)) ok_45, optP_some]
    by_cases hn : p < 0
    · rw [show (zL p).take (1 : Int).toNat = [45] by rw [zL_neg hn]; rfl]
      simp only [decide_true]
      walk_at "sx"
      rw [gSl_from (by decide) hsm, optP_some, show (zL p).drop (1 : Int).toNat = TL.numL p.natAbs by rw [zL_neg hn]; rfl]
    · have e1 : (zL p).take (1 : Int).toNat = [c] := by rw [zL_nonneg (by omega), hcr]; rfl
      rw [e1]
      simp only [show ¬ ([c] = [45]) by simp; omega, decide_false]
      walk_at "sx"
      rw [zL_nonneg (show 0 ≤ p by omega)]
  by_cases hb : p.natAbs < 10000
  · have h4 := numL_le4 hb
    refine wp_seq [some (.dat (.str (S (zL p)))), some (.dat (.str (S (TL.numL p.natAbs)))), none] ?_ ?_
    · refine wp_ifF ?_ ?_
      · refine wp_orT false false ?_ (fun _ => ?_) ⟨rfl, rfl⟩
        · walk_at "sx"
          rw [S_len]
          refine ⟨hsd, ?_⟩
          rw [numF_len, decide_eq_true (show ((TL.numL p.natAbs).length : Int) ≤ 4 by omega)]
          rfl
        · walk_at "sx"
          refine ⟨by show small ((S (TL.numL p.natAbs)).cps.toList.map _).length = true; rw [List.length_map]; exact hsd, ?_⟩
          refine w_digs (TL.numL p.natAbs) (fun c hc => numL_dig hc) ?_
          rw [gAll_l, optP_some, show ((TL.numL p.natAbs).map fun _ => true).all id = true by simp]
          exact ⟨rfl, rfl⟩
      · exact ⟨rfl, rfl⟩
    refine wp_seq [some (.dat (.str (S (zL p)))), some (.dat (.str (S (TL.numL p.natAbs)))), none] ?_ ?_
    · refine wp_ifF ?_ ?_
      · refine wp_andT (decide (c = 48)) false ?_ (fun h => ?_) ⟨by simp, rfl⟩
        · walk_at "sx"
          rw [S_len, if_pos hsd, hcr, show atI (S (c :: r)).cps.toList 0 = some c from atI_0]
          simp only [Option.map_some, optP_some]
          rw [show (⟨#[c]⟩ : Str) = S [c] from rfl, c_zero, gEq_fSS (by intro x hx; simp at hx; omega) ok_48, optP_some]
          simp
        · have hz := hc3 (of_decide_eq_true h)
          have hp0 : p = 0 := by omega
          subst hp0
          walk_at "sx"
          rw [c_zero, gEq_tSS ok_zL ok_48, optP_some, show zL 0 = [48] from numL_0]
          rfl
      · exact ⟨rfl, rfl⟩
    · walk_at "sx"
      rw [S_len, decide_eq_true (show (zL p).length ≤ 640 by omega), if_pos rfl, intText_zL p (by omega)]
      unfold wholeF
      rw [if_pos hb]
      exact ⟨rfl, rfl⟩
  · have h4 := numL_len4 (show 10000 ≤ p.natAbs by omega)
    refine wp_seqR (.dat .none) _ (wp_ifT ?_ ⟨rfl, rfl⟩) ⟨?_, rfl⟩
    · refine wp_orT true false ?_ (fun h => by cases h) ⟨rfl, rfl⟩
      walk_at "sx"
      rw [S_len]
      refine ⟨hsd, ?_⟩
      rw [numF_len, decide_eq_false (show ¬ ((TL.numL p.natAbs).length : Int) ≤ 4 by omega)]
      rfl
    · unfold wholeF
      rw [if_neg hb]
def tL (x : Fr) : List Nat := if x.2 = 1 then zL x.1 else zL x.1 ++ ([47] ++ zL x.2)
theorem bd_log {i : Int} (h : Bd 1900 i) : i.natAbs.log2 < 1920 := by
  unfold Bd at h
  by_cases h0 : i.natAbs = 0
  · rw [h0]; decide
  · exact Nat.lt_of_lt_of_le ((Nat.log2_lt h0).mpr h) (by decide)
theorem e_number_text (x : Fr) (h1 : Bd 1900 x.1) (h2 : Bd 1900 x.2) : m_number_text [some (.dat (frD x))] = some (.dat (.str (S (tL x))), [some (.dat (frD x))]) := by
  refine wp_fn rfl ?_
  show wp b_number_text [some (.dat (frD x))] _
  unfold b_number_text
  simp only [frD]
  have l1 := zL_len (bd_log h1)
  have l2 := zL_len (bd_log h2)
  walk_at "sx"
  rw [str_zL, str_zL, c_slash]
  unfold tL
  by_cases hq : x.2 = 1
  · rw [hq]
    simp only [beq_self_eq_true, if_true]
    exact ⟨decide_eq_true (bd_log h1), trivial, rfl⟩
  · rw [if_neg hq, show (x.2 == 1) = false from beq_eq_false_iff_ne.mpr hq]
    simp only
    refine ⟨decide_eq_true (bd_log h1), by rw [S_len, S_len]; exact small_of (by simp; omega), decide_eq_true (bd_log h2), ?_, ?_, rfl⟩
    · rw [S_cat, S_len, S_len]; exact small_of (by simp; omega)
    · rw [S_cat, S_cat, List.append_assoc]
theorem e_law_word (x : Fr) (h1 : Bd 1900 x.1) (h2 : Bd 1900 x.2) : m_law_word [some (.dat (frD x))] = some (.dat (.str (S (tL x))), [some (.dat (frD x))]) := by
  refine wp_fn rfl ?_
  show wp b_law_word [some (.dat (frD x))] _
  unfold b_law_word
  simp only [frD]
  have l1 := zL_len (bd_log h1)
  have l2 := zL_len (bd_log h2)
  walk_at "sx"
  rw [str_zL, str_zL, c_slash]
  unfold tL
  by_cases hq : x.2 = 1
  · rw [hq]
    simp only [beq_self_eq_true, if_true]
    exact ⟨decide_eq_true (bd_log h1), trivial, rfl⟩
  · rw [if_neg hq, show (x.2 == 1) = false from beq_eq_false_iff_ne.mpr hq]
    simp only
    refine ⟨decide_eq_true (bd_log h1), by rw [S_len, S_len]; exact small_of (by simp; omega), decide_eq_true (bd_log h2), ?_, ?_, rfl⟩
    · rw [S_cat, S_len, S_len]; exact small_of (by simp; omega)
    · rw [S_cat, S_cat, List.append_assoc]
def partsOf (x : Fr) : List (List Nat) := if x.2 = 1 then [zL x.1] else [zL x.1, zL x.2]
theorem split_tL (x : Fr) : Txt.split (S (tL x)) (S [47]) = (partsOf x).map S := by
  rw [split_S (by decide) (by decide)]
  congr 1
  unfold tL partsOf
  have f1 : 47 ∉ zL x.1 := zL_free (by omega)
  have f2 : 47 ∉ zL x.2 := zL_free (by omega)
  split
  · exact spl_join (c := 47) (sep := []) (parts := [zL x.1]) (by simp) (by simpa using f1)
  · exact spl_join (c := 47) (sep := []) (parts := [zL x.1, zL x.2]) (by simp) (by simpa using ⟨f1, f2⟩)
def numF (x : Fr) : PyData := if x.1.natAbs ≤ 1000 ∧ x.2.natAbs ≤ 1000 then frD x else .none
theorem e_number_of (x : Fr) (hlow : Low x) (h1 : Bd 1900 x.1) (h2 : Bd 1900 x.2) : m_number_of [some (.dat (.str (S (tL x))))] = some (.dat (numF x), [some (.dat (.str (S (tL x))))]) := by
  have l1 := zL_len (bd_log h1)
  have l2 := zL_len (bd_log h2)
  have hq0 := hlow.1
  have lt : (tL x).length ≤ 1300 := by
    unfold tL
    split
    · omega
    · simp; omega
  refine wp_fn rfl ?_
  show wp b_number_of [some (.dat (.str (S (tL x)))), none, none, none] _
  unfold b_number_of
  refine wp_seq [some (.dat (.str (S (tL x)))), some (.dat (.list ((partsOf x).map fun a => .str (S a)))), none, none] ?_ ?_
  · walk_at "sx"
    rw [c_slash]
    show optP (if (!(S [47]).length == 0 && small ((S (tL x)).length + 2)) = true then some (PyData.list (List.map PyData.str (Txt.split (S (tL x)) (S [47])))) else none) _
    rw [S_len, S_len, split_tL, List.map_map]
    rw [if_pos (by simp; exact small_of (by omega))]
    rfl
  refine wp_seq [some (.dat (.str (S (tL x)))), some (.dat (.list ((partsOf x).map fun a => .str (S a)))), some (.dat (wholeF x.1)), none] ?_ ?_
  · have e : atI ((partsOf x).map fun a => PyData.str (S a)) 0 = some (.str (S (zL x.1))) := by
      unfold partsOf
      split
      · exact atI_0
      · exact atI_0
    walk_at "sx"
    rw [e]
    walk_at "sx"
    rw [wp_eq (e_whole_of x.1 (bd_log h1))]
    walk_at "sx"
  have len1 : (((partsOf x).map fun a => PyData.str (S a)).length : Int) = if x.2 = 1 then 1 else 2 := by
    unfold partsOf
    split <;> rfl
  by_cases hp : x.1.natAbs ≤ 1000
  · have hw : wholeF x.1 = .int x.1 := if_pos (by omega)
    rw [hw]
    refine wp_seq [some (.dat (.str (S (tL x)))), some (.dat (.list ((partsOf x).map fun a => .str (S a)))), some (.dat (.int x.1)), none] ?_ ?_
    · refine wp_ifF ?_ ⟨rfl, rfl⟩
      refine wp_orT false false ?_ (fun _ => wp_orT false false ?_ (fun _ => ?_) ⟨rfl, rfl⟩) ⟨rfl, rfl⟩
      · walk_at "sx"
        rw [len1]
        exact decide_eq_false (by split <;> omega)
      · walk_at "sx"
      · walk_at "sx"
        exact decide_eq_false (by split <;> omega)
    by_cases hq : x.2 = 1
    · refine wp_seqR (.dat (numF x)) [some (.dat (.str (S (tL x)))), some (.dat (.list ((partsOf x).map fun a => .str (S a)))), some (.dat (.int x.1)), none] (wp_ifT ?_ ?_) ⟨rfl, rfl⟩
      · walk_at "sx"
        rw [len1, if_pos hq]
        rfl
      · walk_at "sx"
        unfold numF frD
        rw [if_pos ⟨hp, by omega⟩, hq]
        exact ⟨rfl, rfl⟩
    · refine wp_seq [some (.dat (.str (S (tL x)))), some (.dat (.list ((partsOf x).map fun a => .str (S a)))), some (.dat (.int x.1)), none] ?_ ?_
      · refine wp_ifF ?_ ⟨rfl, rfl⟩
        walk_at "sx"
        rw [len1, if_neg hq]
        rfl
      refine wp_seq [some (.dat (.str (S (tL x)))), some (.dat (.list ((partsOf x).map fun a => .str (S a)))), some (.dat (.int x.1)), some (.dat (wholeF x.2))] ?_ ?_
      · have e : atI ((partsOf x).map fun a => PyData.str (S a)) 1 = some (.str (S (zL x.2))) := by
          unfold partsOf
          rw [if_neg hq]
          exact atI_1
        walk_at "sx"
        rw [e]
        walk_at "sx"
        rw [wp_eq (e_whole_of x.2 (bd_log h2))]
        walk_at "sx"
      by_cases hq2 : x.2.natAbs ≤ 1000
      · have hw2 : wholeF x.2 = .int x.2 := if_pos (by omega)
        rw [hw2]
        refine wp_seq [some (.dat (.str (S (tL x)))), some (.dat (.list ((partsOf x).map fun a => .str (S a)))), some (.dat (.int x.1)), some (.dat (.int x.2))] ?_ ?_
        · refine wp_ifF ?_ ⟨rfl, rfl⟩
          refine wp_orT false false ?_ (fun _ => wp_orT false false ?_ (fun _ => ?_) ⟨rfl, rfl⟩) ⟨rfl, rfl⟩
          · walk_at "sx"
          · walk_at "sx"
            rw [decide_eq_true (show (2 : Int) ≤ x.2 by omega), decide_eq_true (show x.2 ≤ (1000 : Int) by omega)]
            rfl
          · walk_at "sx"
            rw [wp_eq (e_gcd x.1 x.2)]
            walk_at "sx"
            rw [hlow.2]
            rfl
        · walk_at "sx"
          unfold numF frD
          rw [if_pos ⟨hp, hq2⟩]
          exact ⟨rfl, rfl, rfl⟩
      · refine wp_seqR (.dat .none) [some (.dat (.str (S (tL x)))), some (.dat (.list ((partsOf x).map fun a => .str (S a)))), some (.dat (.int x.1)), some (.dat (wholeF x.2))] (wp_ifT ?_ ⟨rfl, rfl⟩) ⟨?_, rfl⟩
        · by_cases hb : x.2.natAbs < 10000
          · rw [show wholeF x.2 = .int x.2 from if_pos hb]
            refine wp_orT false true ?_ (fun _ => wp_orT true false ?_ (fun h => by cases h) ⟨rfl, rfl⟩) ⟨rfl, rfl⟩
            · walk_at "sx"
            · walk_at "sx"
              rw [decide_eq_true (show (2 : Int) ≤ x.2 by omega), decide_eq_false (show ¬ x.2 ≤ (1000 : Int) by omega)]
              rfl
          · rw [show wholeF x.2 = .none from if_neg hb]
            refine wp_orT true true ?_ (fun h => by cases h) ⟨rfl, rfl⟩
            walk_at "sx"
        · unfold numF
          rw [if_neg (fun h => hq2 h.2)]
  · refine wp_seqR (.dat .none) [some (.dat (.str (S (tL x)))), some (.dat (.list ((partsOf x).map fun a => .str (S a)))), some (.dat (wholeF x.1)), none] (wp_ifT ?_ ⟨rfl, rfl⟩) ⟨?_, rfl⟩
    · refine wp_orT false true ?_ (fun _ => ?_) ⟨rfl, rfl⟩
      · walk_at "sx"
        rw [len1]
        exact decide_eq_false (by split <;> omega)
      by_cases hb : x.1.natAbs < 10000
      · rw [show wholeF x.1 = .int x.1 from if_pos hb]
        refine wp_orT false true ?_ (fun _ => ?_) ⟨rfl, rfl⟩
        · walk_at "sx"
        · walk_at "sx"
          exact decide_eq_true (by split <;> omega)
      · rw [show wholeF x.1 = .none from if_neg hb]
        refine wp_orT true true ?_ (fun h => by cases h) ⟨rfl, rfl⟩
        walk_at "sx"
    · unfold numF
      rw [if_neg (fun h => hp h.1)]
end K00
-- K00D
namespace K00
open PySem L2 Sem Num PyProof.Rows
local macro_rules | `(tactic| walk_at "sx") => `(tactic| try simp only [wv0d, wv0l, wv0s, wv1d, wv1l, wv1s, wv2d, wv2l, wv2s, wv3d, wv3l, wv3s, wv4d, wv4l, wv4s, wv5d, wv5l, wv5s, wv6d, wv6l, wv6s, wv7d, wv7l, wv7s, wv8d, wv8l, wv8s, wv9d, wv9l, wv9s, wv10d, wv10l, wv10s, wv11d, wv11l, wv11s, wv12d, wv12l, wv12s, wv13d, wv13l, wv13s, wv14d, wv14l, wv14s, wv15d, wv15l, wv15s, wv16d, wv16l, wv16s, wv17d, wv17l, wv17s, wv18d, wv18l, wv18s, wv19d, wv19l, wv19s, wv20d, wv20l, wv20s, wv21d, wv21l, wv21s, wv22d, wv22l, wv22s, wv23d, wv23l, wv23s, wp_C, wp_D, wp_Set, wp_Fr, wp_O, wp_Op, wp_TV, wp_Chain, wp_Un, wp_AndT, wp_OrT, wp_NotT, wp_AndV, wp_OrV, wp_NotV, wp_If, wp_A0, wp_A1, wp_L0, wp_L1, wp_Tup, wp_Lst, wp_Call, wp_Nx, wp_Bk, wp_Ct, wp_No, wp_Seq, wp_Asg, wp_AsgO, wp_AsgG, wp_Par, wp_Par3, wp_SetIx, wp_Mt, wp_Drop, wp_Ret, wp_RetN, wp_RetV, wp_Tru, wp_Isi, wp_Part, wp_NoPart, wp_Sl, wp_MS, wp_Dict0, wp_SeqI, wp_StrI, wp_Rng1, wp_For, wp_Lc, wp_Yes, wp_Cl, isTy_bool_n, isTy_bool_b, isTy_bool_i, isTy_bool_s, isTy_bool_l, isTy_bool_t, isTy_bool_d, isTy_int_n, isTy_int_b, isTy_int_i, isTy_int_s, isTy_int_l, isTy_int_t, isTy_int_d, isTy_str_n, isTy_str_b, isTy_str_i, isTy_str_s, isTy_str_l, isTy_str_t, isTy_str_d, isTy_list_n, isTy_list_b, isTy_list_i, isTy_list_s, isTy_list_l, isTy_list_t, isTy_list_d, isTy_tuple_n, isTy_tuple_b, isTy_tuple_i, isTy_tuple_s, isTy_tuple_l, isTy_tuple_t, isTy_tuple_d, isTy_dict_n, isTy_dict_b, isTy_dict_i, isTy_dict_s, isTy_dict_l, isTy_dict_t, isTy_dict_d, optP_some, optP_ite, optP_map, rd_dat, rd_loc, rdL_nil, rdL_cons, gAdd_ii, gAdd_ss, gAdd_ll, gAdd_tt, gMul_ii, gMul_li, gII_ii, gII0_ii, gIB_ii, gNeg_i, gEq_fii, gEq_tii, gEq_fbb, gIs_fn, gIs_tn, gIs_fb, gIs_tb, isNone_none, isNone_int, isNone_tuple, isNone_str, gTru_b, gTru_i, gTru_n, gTru_l, gTru_t, gTru_s, atI_0, atI_1, atI_2, atI_3, atI_4, atI_5, gIx_l, gIx_t, gIx_s, gAbs_i, gMin_ii, gInt_i, gInt_b, gInt_s, gStr_i, gLen_s, gLen_l, gLen_t, gTuple_l, gTuple_t, gAny_l, gAll_l, frT_dat, frT_lst, asLoc_loc, asInt_int, asStr_str, seqOf_l, seqOf_t, gN_eq, gN0_eq, gN1_eq, gT_eq, argsT_nil, argsT_cons, argT_dat, argT_loc, putBack_nil, putBack_dat, putBack_loc, distinct_nil, distinct_dat, distinct_loc, hasLoc_nil, hasLoc_dat, hasLoc_loc, lstAt, List.getElem?_cons_zero, List.getElem?_cons_succ, List.set_cons_zero, List.set_cons_succ, List.length_cons, List.length_nil, true_and, and_true])
theorem e_total (xs : List Fr) (hx : ∀ x ∈ xs, FB 200 x) (hl : xs.length ≤ 20) {d : PyData} (hd : seqOf d = some (xs.map frD)) : m_total [some (.dat d)] = some (.dat (frD (totF xs)), [some (.dat d)]) := by
  refine wp_fn rfl ?_
  show wp b_total [some (.dat d), none, none] _
  unfold b_total
  refine wp_seq [some (.dat d), some (.dat (frD (0, 1))), none] (by walk_at "sx"; rfl) ?_
  refine wp_seqE (fun ρ => ∃ o, ρ = [some (.dat d), some (.dat (frD (totF xs))), o]) ?_ ?_
  · walk_at "sx"
    rw [hd, optP_some]
    exact w_total xs _ [] xs (0, 1) 1 none fb01 hx (by omega) fun o => ⟨rfl, o, rfl⟩
  · intro ρ1 ⟨o, e⟩
    subst e
    walk_at "sx"
    rfl
theorem e_law_total (xs : List Fr) (hx : ∀ x ∈ xs, FB 200 x) (hl : xs.length ≤ 20) {d : PyData} (hd : seqOf d = some (xs.map frD)) : m_law_total [some (.dat d)] = some (.dat (frD (totF xs)), [some (.dat d)]) := by
  refine wp_fn rfl ?_
  show wp b_law_total [some (.dat d), none, none] _
  unfold b_law_total
  refine wp_seq [some (.dat d), some (.dat (frD (0, 1))), none] (by walk_at "sx"; exact ⟨rfl, rfl⟩) ?_
  refine wp_seqE (fun ρ => ∃ o, ρ = [some (.dat d), some (.dat (frD (totF xs))), o]) ?_ ?_
  · walk_at "sx"
    rw [hd, optP_some]
    exact w_law_total xs _ [] xs (0, 1) 1 none fb01 hx (by omega) fun o => ⟨rfl, o, rfl⟩
  · intro ρ1 ⟨o, e⟩
    subst e
    walk_at "sx"
    rfl
/-- what is_fraction says -/
def isF : PyData → Bool
  | .tuple [.int p, .int q] => decide (0 < q) && decide (Int.gcd p q = 1)
  | _ => false
theorem w_parts {d : PyData} {x : Option T} : ∀ (ds : List PyData) {Q : List PyData → DEnv → Prop}, Q ((ds.map fun d => match d with | .int _ => false | _ => true).map PyData.bool) [x, none] → wp (mLcL [1] (gN 1) mYes (mOrV (mNotV (mIsi "int" (mVar 1))) (mIsi "bool" (mVar 1))) ds) [x, none] Q
  | [], Q, q => q
  | d :: ds, Q, q => by
    rw [wp_LcCons]
    show wp (mOrV (mNotV (mIsi "int" (mVar 1))) (mIsi "bool" (mVar 1))) [x, some (.dat d)] _
    rw [wp_OrV, wp_NotV, wp_Isi]
    cases d <;> exact w_parts (d := d) ds q
theorem e_is_fraction (d : PyData) : m_is_fraction [some (.dat d)] = some (.dat (.bool (isF d)), [some (.dat d)]) := by
  refine wp_fn rfl ?_
  show wp b_is_fraction [some (.dat d), none] _
  unfold b_is_fraction
  by_cases h : ∃ a b, d = .tuple [a, b]
  · obtain ⟨a, b, rfl⟩ := h
    refine wp_seq [some (.dat (.tuple [a, b])), none] ?_ ?_
    · refine wp_ifF ?_ ⟨rfl, rfl⟩
      refine wp_orT false false ?_ (fun _ => ?_) ⟨rfl, rfl⟩
      · walk_at "sx"
        rfl
      · walk_at "sx"
        rfl
    by_cases hab : ∃ p q, a = .int p ∧ b = .int q
    · obtain ⟨p, q, rfl, rfl⟩ := hab
      refine wp_seq [some (.dat (.tuple [.int p, .int q])), none] ?_ ?_
      · refine wp_ifF ?_ ⟨rfl, rfl⟩
        walk_at "sx"
        refine ⟨rfl, ?_⟩
        refine w_parts (d := .none) _ ?_
        rw [gAny_l, optP_some]
        exact ⟨rfl, rfl⟩
      · walk_at "sx"
        unfold isF
        rw [wp_eq (e_gcd p q)]
        walk_at "sx"
        by_cases hq : 0 < q
        · rw [decide_eq_true hq]
          refine ⟨?_, rfl⟩
          simp only [Bool.true_and]
          congr 3
          by_cases hg : Int.gcd p q = 1
          · rw [hg]; rfl
          · rw [decide_eq_false hg]
            exact beq_eq_false_iff_ne.mpr (by omega)
        · rw [decide_eq_false hq]
          exact ⟨rfl, rfl⟩
    · have hf : isF (.tuple [a, b]) = false := by
        unfold isF
        split
        · rename_i p q e
          cases e
          exact absurd ⟨p, q, rfl, rfl⟩ hab
        · rfl
      refine wp_seqR (.dat (.bool false)) [some (.dat (.tuple [a, b])), none] (wp_ifT ?_ ⟨rfl, rfl⟩) ⟨by rw [hf], rfl⟩
      walk_at "sx"
      refine ⟨rfl, ?_⟩
      refine w_parts (d := .none) _ ?_
      rw [gAny_l, optP_some]
      refine ⟨?_, rfl⟩
      cases a with
      | int p => cases b with
        | int q => exact absurd ⟨p, q, rfl, rfl⟩ hab
        | _ => rfl
      | _ => rfl
  · have hf : isF d = false := by
      unfold isF
      split
      · exact absurd ⟨_, _, rfl⟩ h
      · rfl
    refine wp_seqR (.dat (.bool false)) [some (.dat d), none] (wp_ifT ?_ ⟨rfl, rfl⟩) ⟨by rw [hf], rfl⟩
    by_cases ht : ∃ ds, d = .tuple ds
    · obtain ⟨ds, rfl⟩ := ht
      refine wp_orT false true ?_ (fun _ => ?_) ⟨rfl, rfl⟩
      · walk_at "sx"
        rfl
      · walk_at "sx"
        match ds, h with
        | [], _ => rfl
        | [_], _ => rfl
        | [a, b], h => exact absurd ⟨a, b, rfl⟩ h
        | a :: b :: c :: r, _ =>
          simp only [List.length_cons]
          have : ((↑(r.length + 1 + 1 + 1) : Int) == 2) = false := beq_eq_false_iff_ne.mpr (by omega)
          rw [this]
          rfl
    · refine wp_orT true true ?_ (fun h => by cases h) ⟨rfl, rfl⟩
      walk_at "sx"
      cases d with
      | tuple ds => exact absurd ⟨ds, rfl⟩ ht
      | _ => rfl
end K00
-- K00E
namespace K00
open PySem L2 Sem Num PyProof.Rows
local macro_rules | `(tactic| walk_at "sx") => `(tactic| try simp only [wv0d, wv0l, wv0s, wv1d, wv1l, wv1s, wv2d, wv2l, wv2s, wv3d, wv3l, wv3s, wv4d, wv4l, wv4s, wv5d, wv5l, wv5s, wv6d, wv6l, wv6s, wv7d, wv7l, wv7s, wv8d, wv8l, wv8s, wv9d, wv9l, wv9s, wv10d, wv10l, wv10s, wv11d, wv11l, wv11s, wv12d, wv12l, wv12s, wv13d, wv13l, wv13s, wv14d, wv14l, wv14s, wv15d, wv15l, wv15s, wv16d, wv16l, wv16s, wv17d, wv17l, wv17s, wv18d, wv18l, wv18s, wv19d, wv19l, wv19s, wv20d, wv20l, wv20s, wv21d, wv21l, wv21s, wv22d, wv22l, wv22s, wv23d, wv23l, wv23s, wp_C, wp_D, wp_Set, wp_Fr, wp_O, wp_Op, wp_TV, wp_Chain, wp_Un, wp_AndT, wp_OrT, wp_NotT, wp_AndV, wp_OrV, wp_NotV, wp_If, wp_A0, wp_A1, wp_L0, wp_L1, wp_Tup, wp_Lst, wp_Call, wp_Nx, wp_Bk, wp_Ct, wp_No, wp_Seq, wp_Asg, wp_AsgO, wp_AsgG, wp_Par, wp_Par3, wp_SetIx, wp_Mt, wp_Drop, wp_Ret, wp_RetN, wp_RetV, wp_Tru, wp_Isi, wp_Part, wp_NoPart, wp_Sl, wp_MS, wp_Dict0, wp_SeqI, wp_StrI, wp_Rng1, wp_For, wp_Lc, wp_Yes, wp_Cl, isTy_bool_n, isTy_bool_b, isTy_bool_i, isTy_bool_s, isTy_bool_l, isTy_bool_t, isTy_bool_d, isTy_int_n, isTy_int_b, isTy_int_i, isTy_int_s, isTy_int_l, isTy_int_t, isTy_int_d, isTy_str_n, isTy_str_b, isTy_str_i, isTy_str_s, isTy_str_l, isTy_str_t, isTy_str_d, isTy_list_n, isTy_list_b, isTy_list_i, isTy_list_s, isTy_list_l, isTy_list_t, isTy_list_d, isTy_tuple_n, isTy_tuple_b, isTy_tuple_i, isTy_tuple_s, isTy_tuple_l, isTy_tuple_t, isTy_tuple_d, isTy_dict_n, isTy_dict_b, isTy_dict_i, isTy_dict_s, isTy_dict_l, isTy_dict_t, isTy_dict_d, optP_some, optP_ite, optP_map, rd_dat, rd_loc, rdL_nil, rdL_cons, gAdd_ii, gAdd_ss, gAdd_ll, gAdd_tt, gMul_ii, gMul_li, gII_ii, gII0_ii, gIB_ii, gNeg_i, gEq_fii, gEq_tii, gEq_fbb, gIs_fn, gIs_tn, gIs_fb, gIs_tb, isNone_none, isNone_int, isNone_tuple, isNone_str, gTru_b, gTru_i, gTru_n, gTru_l, gTru_t, gTru_s, atI_0, atI_1, atI_2, atI_3, atI_4, atI_5, gIx_l, gIx_t, gIx_s, gAbs_i, gMin_ii, gInt_i, gInt_b, gInt_s, gStr_i, gLen_s, gLen_l, gLen_t, gTuple_l, gTuple_t, gAny_l, gAll_l, frT_dat, frT_lst, asLoc_loc, asInt_int, asStr_str, seqOf_l, seqOf_t, gN_eq, gN0_eq, gN1_eq, gT_eq, argsT_nil, argsT_cons, argT_dat, argT_loc, putBack_nil, putBack_dat, putBack_loc, distinct_nil, distinct_dat, distinct_loc, hasLoc_nil, hasLoc_dat, hasLoc_loc, lstAt, List.getElem?_cons_zero, List.getElem?_cons_succ, List.set_cons_zero, List.set_cons_succ, List.length_cons, List.length_nil, true_and, and_true])
theorem ixN30 : ixN 3 0 = some 0 := rfl
theorem ixN32 : ixN 3 2 = some 2 := rfl
/-- the law's own state of numbers -/
def St (N : Nat) (ds : List PyData) : Prop := ∃ g s k : Int, ds = [.int g, .int s, .int k] ∧ 0 ≤ s ∧ s < 2147483629 ∧ 0 ≤ k ∧ k ≤ (N : Int)
theorem fmod_lo {a b : Int} (h : 0 < b) : 0 ≤ a.fmod b := Int.fmod_nonneg_of_pos a h
theorem fmod_hi {a b : Int} (h : 0 < b) : a.fmod b < b := Int.fmod_lt_of_pos a h
theorem bd_of {k : Nat} {i : Int} (h1 : -(2 ^ k : Nat) < i) (h2 : i < (2 ^ k : Nat)) : Bd k i := by
  unfold Bd
  omega
theorem bd31 {i : Int} (h1 : 0 ≤ i) (h2 : i < 2147483648) : Bd 31 i := bd_of (by omega) (by omega)
theorem wp_take {N : Nat} {ds : List PyData} {m : Int} {Q : T → DEnv → Prop} (hS : St N ds) (hm : 0 < m) (hb : Bd 200 m) (hN : N ≤ 2 ^ 30) (q : ∀ (x : Int) (ds' : List PyData), 0 ≤ x → x < m → St (N + 1) ds' → Q (.dat (.int x)) [some (.lst ds'), some (.dat (.int m))]) : wp m_law_take [some (.lst ds), some (.dat (.int m))] Q := by
  obtain ⟨g, s, k, rfl, hs0, hs1, hk0, hk1⟩ := hS
  refine wp_fnE rfl ?_
  show wp b_law_take [some (.lst [.int g, .int s, .int k]), some (.dat (.int m)), none, none] _
  unfold b_law_take
  have hm0 : m ≠ 0 := by omega
  by_cases hg : 0 < g
  · refine wp_seqR (.dat (.int (g.fmod m))) [some (.lst [.int (g.fdiv m), .int s, .int k]), some (.dat (.int m)), some (.dat (.int (g.fmod m))), none] (wp_ifT ?_ ?_) ?_
    · walk_at "sx"
      exact decide_eq_true hg
    · walk_at "sx"
      refine ⟨decide_eq_true hm0, divOk_of hm0 hb (by decide), ?_⟩
      rw [ixN30]
      rfl
    · exact ⟨_, rfl, q _ _ (fmod_lo hm) (fmod_hi hm) ⟨_, _, _, rfl, hs0, hs1, hk0, by omega⟩⟩
  · refine wp_seq [some (.lst [.int g, .int s, .int k]), some (.dat (.int m)), none, none] (wp_ifF ?_ ⟨rfl, rfl⟩) ?_
    · walk_at "sx"
      exact decide_eq_false hg
    have hkb : k + 1 < 2147483648 := by
      have : (N : Int) ≤ 2 ^ 30 := by exact_mod_cast hN
      omega
    have bs : Bd 31 s := bd31 hs0 (by omega)
    have bk : Bd 31 (k + 1) := bd31 (by omega) hkb
    have c1 := fmod_lo (a := s * 48271 + 69621 * (k + 1)) (b := 2147483647) (by decide)
    have c2 := fmod_hi (a := s * 48271 + 69621 * (k + 1)) (b := 2147483647) (by decide)
    generalize e1 : (s * 48271 + 69621 * (k + 1)).fmod 2147483647 = x1 at c1 c2
    have b1 : Bd 31 x1 := bd31 c1 (by omega)
    have d1 : Bd 31 (x1.fdiv 1000) := by
      refine b1.le ?_
      have h := Int.fdiv_nonneg c1 (show (0 : Int) ≤ 1000 by decide)
      have h2 : x1.fdiv 1000 ≤ x1 := Int.fdiv_le_self _ c1
      omega
    have c3 := fmod_lo (a := x1 * x1 + 48271 * x1.fdiv 1000) (b := 2147483629) (by decide)
    have c4 := fmod_hi (a := x1 * x1 + 48271 * x1.fdiv 1000) (b := 2147483629) (by decide)
    generalize e2 : (x1 * x1 + 48271 * x1.fdiv 1000).fmod 2147483629 = x2 at c3 c4
    have b2 : Bd 31 x2 := bd31 c3 (by omega)
    refine wp_seq [some (.lst [.int g, .int s, .int (k + 1)]), some (.dat (.int m)), none, none] ?_ ?_
    · walk_at "sx"
      rw [ixN32]
      rfl
    refine wp_seq [some (.lst [.int g, .int s, .int (k + 1)]), some (.dat (.int m)), none, some (.dat (.int x1))] ?_ ?_
    · walk_at "sx"
      rw [e1]
      exact ⟨mulOk_of bs (l := 20) (by decide) (by decide), mulOk_of (k := 20) (by decide) bk (by decide), by decide, rfl⟩
    refine wp_seq [some (.lst [.int g, .int s, .int (k + 1)]), some (.dat (.int m)), none, some (.dat (.int x2))] ?_ ?_
    · walk_at "sx"
      rw [e2]
      exact ⟨mulOk_of b1 b1 (by decide), divOk_of (k := 20) (by decide) (by decide) (by decide), mulOk_of (k := 20) (by decide) d1 (by decide), by decide, rfl⟩
    refine wp_seq [some (.lst [.int g, .int s, .int (k + 1)]), some (.dat (.int m)), none, some (.dat (.int ((x2 * x2 + 31 * x2 + (k + 1)).fmod 2147483647)))] ?_ ?_
    · walk_at "sx"
      exact ⟨mulOk_of b2 b2 (by decide), mulOk_of (k := 20) (by decide) b2 (by decide), by decide⟩
    · walk_at "sx"
      exact ⟨divOk_of (k := 20) (by decide) (by decide) (by decide), decide_eq_true hm0, _, rfl, q _ _ (fmod_lo hm) (fmod_hi hm) ⟨_, _, _, rfl, hs0, hs1, by omega, by omega⟩⟩
theorem St.mono {N M : Nat} {ds : List PyData} (h : St N ds) (e : N ≤ M) : St M ds := by
  obtain ⟨g, s, k, rfl, hs0, hs1, hk0, hk1⟩ := h
  exact ⟨g, s, k, rfl, hs0, hs1, hk0, by omega⟩
theorem wp_great {N : Nat} {ds : List PyData} {Q : T → DEnv → Prop} (hS : St N ds) (hN : N ≤ 2 ^ 29) (q : ∀ (x : Int) (ds' : List PyData), Bd 200 x → St (N + 5) ds' → Q (.dat (.int x)) [some (.lst ds')]) : wp m_law_great [some (.lst ds)] Q := by
  refine wp_fnE rfl ?_
  show wp b_law_great [some (.lst ds), none, none] _
  unfold b_law_great
  refine wp_seqE (fun ρ => ∃ (x : Int) (ds' : List PyData), St (N + 1) ds' ∧ ρ = [some (.lst ds'), some (.dat (.int x)), none]) ?_ ?_
  · walk_at "sx"
    refine ⟨rfl, wp_take hS (by decide) (by decide) (by omega) fun x ds' h1 h2 hS' => ?_⟩
    walk_at "sx"
    exact ⟨x, ds', hS', rfl⟩
  intro ρ1 ⟨x, ds1, hS1, e⟩
  subst e
  by_cases hx0 : x = 0
  · refine wp_seqRE (wp_ifT ?_ ?_)
    · walk_at "sx"
      rw [hx0]
      rfl
    · walk_at "sx"
      refine ⟨rfl, wp_take hS1 (by decide) (by decide) (by omega) fun x ds' h1 h2 hS' => ?_⟩
      walk_at "sx"
      exact ⟨_, rfl, _, rfl, q _ _ (bd_of (by omega) (by omega)) (hS'.mono (by omega))⟩
  refine wp_seq [some (.lst ds1), some (.dat (.int x)), none] (wp_ifF ?_ ⟨rfl, rfl⟩) ?_
  · walk_at "sx"
    exact beq_eq_false_iff_ne.mpr hx0
  by_cases hx1 : x = 1
  · refine wp_seqRE (wp_ifT ?_ ?_)
    · walk_at "sx"
      rw [hx1]
      rfl
    · walk_at "sx"
      refine ⟨by decide, by decide +kernel, rfl, wp_take hS1 (by decide) (by decide) (by omega) fun x ds' h1 h2 hS' => ?_⟩
      walk_at "sx"
      refine ⟨by decide, _, rfl, _, rfl, q _ _ ?_ (hS'.mono (by omega))⟩
      refine bd_of ?_ ?_ <;> simp at h2 ⊢ <;> omega
  refine wp_seq [some (.lst ds1), some (.dat (.int x)), none] (wp_ifF ?_ ⟨rfl, rfl⟩) ?_
  · walk_at "sx"
    exact beq_eq_false_iff_ne.mpr hx1
  refine wp_seqE (fun ρ => ∃ (y : Int) (ds' : List PyData), Bd 200 y ∧ St (N + 4) ds' ∧ ρ = [some (.lst ds'), some (.dat (.int x)), some (.dat (.int y))]) ?_ ?_
  · walk_at "sx"
    refine ⟨by decide, rfl, wp_take hS1 (by decide) (by decide) (by omega) fun y1 ds2 h1 h2 hS2 => ?_⟩
    walk_at "sx"
    refine ⟨by decide, mulOk_of (k := 60) (l := 140) (bd_of ?_ ?_) (by decide) (by decide), ?_⟩
    · omega
    · simp at h2 ⊢; omega
    refine ⟨by decide, rfl, wp_take hS2 (by decide) (by decide) (by omega) fun y2 ds3 h3 h4 hS3 => ?_⟩
    walk_at "sx"
    refine ⟨by decide, mulOk_of (k := 60) (l := 140) (bd_of ?_ ?_) (by decide) (by decide), ?_⟩
    · omega
    · simp at h4 ⊢; omega
    refine ⟨by decide, rfl, wp_take hS3 (by decide) (by decide) (by omega) fun y3 ds4 h5 h6 hS4 => ?_⟩
    walk_at "sx"
    refine ⟨_, _, bd_of ?_ ?_, hS4, rfl⟩
    · simp at *; omega
    · simp at *; omega
  intro ρ2 ⟨y, ds2, hy, hS2, e⟩
  subst e
  walk_at "sx"
  refine ⟨rfl, wp_take hS2 (by decide) (by decide) (by omega) fun x ds' h1 h2 hS' => ?_⟩
  walk_at "sx"
  by_cases hz : x = 0
  · rw [show (x == 0) = true from beq_iff_eq.mpr hz]
    exact ⟨_, rfl, q _ _ hy.neg (hS'.mono (by omega))⟩
  · rw [show (x == 0) = false from beq_eq_false_iff_ne.mpr hz]
    exact ⟨_, rfl, q _ _ hy (hS'.mono (by omega))⟩
theorem wp_fraction {N : Nat} {ds : List PyData} {Q : T → DEnv → Prop} (hS : St N ds) (hN : N ≤ 2 ^ 28) (q : ∀ (x : Fr) (ds' : List PyData), FB 200 x → St (N + 10) ds' → Q (.dat (frD x)) [some (.lst ds')]) : wp m_law_fraction [some (.lst ds)] Q := by
  refine wp_fnE rfl ?_
  show wp b_law_fraction [some (.lst ds), none] _
  unfold b_law_fraction
  refine wp_seqE (fun ρ => ∃ (x : Int) (ds' : List PyData), Bd 200 x ∧ St (N + 5) ds' ∧ ρ = [some (.lst ds'), some (.dat (.int x))]) ?_ ?_
  · walk_at "sx"
    refine ⟨rfl, wp_great hS (by omega) fun x ds' h1 hS' => ?_⟩
    walk_at "sx"
    exact ⟨x, ds', h1, hS', rfl⟩
  intro ρ1 ⟨x, ds1, hx, hS1, e⟩
  subst e
  walk_at "sx"
  refine ⟨rfl, wp_great hS1 (by omega) fun y ds' hy hS' => ?_⟩
  walk_at "sx"
  by_cases hz : x = 0
  · rw [show (!(x == 0)) = false by rw [beq_iff_eq.mpr hz]; rfl]
    walk_at "sx"
    rw [wp_eq (e_law_ratio y 7 (k := 200) (by decide) (by decide) (by decide))]
    exact ⟨_, rfl, q _ _ (FB.rat hy (by decide) (by decide)) (hS'.mono (by omega))⟩
  · rw [show (!(x == 0)) = true by rw [beq_eq_false_iff_ne.mpr hz]; rfl]
    walk_at "sx"
    rw [wp_eq (e_law_ratio y x (k := 200) hz hx (by decide))]
    exact ⟨_, rfl, q _ _ (FB.rat hy hx hz) (hS'.mono (by omega))⟩
end K00
-- K00F
namespace K00
open PySem L2 Sem Num PyProof.Rows SX Txs
local macro_rules | `(tactic| walk_at "sy") => `(tactic| try simp only [↓wv23s, ↓wv23l, ↓wv23d, ↓wv22s, ↓wv22l, ↓wv22d, ↓wv21s, ↓wv21l, ↓wv21d, ↓wv20s, ↓wv20l, ↓wv20d, ↓wv19s, ↓wv19l, ↓wv19d, ↓wv18s, ↓wv18l, ↓wv18d, ↓wv17s, ↓wv17l, ↓wv17d, ↓wv16s, ↓wv16l, ↓wv16d, ↓wv15s, ↓wv15l, ↓wv15d, ↓wv14s, ↓wv14l, ↓wv14d, ↓wv13s, ↓wv13l, ↓wv13d, ↓wv12s, ↓wv12l, ↓wv12d, ↓wv11s, ↓wv11l, ↓wv11d, ↓wv10s, ↓wv10l, ↓wv10d, ↓wv9s, ↓wv9l, ↓wv9d, ↓wv8s, ↓wv8l, ↓wv8d, ↓wv7s, ↓wv7l, ↓wv7d, ↓wv6s, ↓wv6l, ↓wv6d, ↓wv5s, ↓wv5l, ↓wv5d, ↓wv4s, ↓wv4l, ↓wv4d, ↓wv3s, ↓wv3l, ↓wv3d, ↓wv2s, ↓wv2l, ↓wv2d, ↓wv1s, ↓wv1l, ↓wv1d, ↓wv0s, ↓wv0l, ↓wv0d, ↓c_C, ↓c_D, ↓c_Set, ↓c_Fr, ↓c_O, ↓c_Op, ↓c_TV, ↓c_Chain, ↓c_Un, ↓c_AndT, ↓c_OrT, ↓c_NotT, ↓c_AndV, ↓c_OrV, ↓c_NotV, ↓c_If, ↓c_A0, ↓c_A1, ↓c_L0, ↓c_L1, ↓c_Tup, ↓c_Lst, ↓c_Call, ↓c_Nx, ↓c_Bk, ↓c_Ct, ↓c_No, ↓c_Seq, ↓c_Asg, ↓c_AsgO, ↓c_AsgG, ↓c_Par, ↓c_Par3, ↓c_SetIx, ↓c_Mt, ↓c_Drop, ↓c_Ret, ↓c_RetN, ↓c_RetV, ↓c_Tru, ↓c_Isi, ↓c_Part, ↓c_NoPart, ↓c_Sl, ↓c_MS, ↓c_Dict0, ↓c_SeqI, ↓c_StrI, ↓c_Rng1, ↓c_For, ↓c_Yes, ↓c_Cl, ↓c_ScrLen, ↓c_ScrIx, c_C, c_D, c_Set, c_Fr, c_O, c_Op, c_TV, c_Chain, c_Un, c_AndT, c_OrT, c_NotT, c_AndV, c_OrV, c_NotV, c_If, c_A0, c_A1, c_L0, c_L1, c_Tup, c_Lst, c_Call, c_Nx, c_Bk, c_Ct, c_No, c_Seq, c_Asg, c_AsgO, c_AsgG, c_Par, c_Par3, c_SetIx, c_Mt, c_Drop, c_Ret, c_RetN, c_RetV, c_Tru, c_Isi, c_Part, c_NoPart, c_Sl, c_MS, c_Dict0, c_SeqI, c_StrI, c_Rng1, c_For, c_Yes, c_Cl, c_ScrLen, c_ScrIx, wv0d, wv0l, wv0s, wv1d, wv1l, wv1s, wv2d, wv2l, wv2s, wv3d, wv3l, wv3s, wv4d, wv4l, wv4s, wv5d, wv5l, wv5s, wv6d, wv6l, wv6s, wv7d, wv7l, wv7s, wv8d, wv8l, wv8s, wv9d, wv9l, wv9s, wv10d, wv10l, wv10s, wv11d, wv11l, wv11s, wv12d, wv12l, wv12s, wv13d, wv13l, wv13s, wv14d, wv14l, wv14s, wv15d, wv15l, wv15s, wv16d, wv16l, wv16s, wv17d, wv17l, wv17s, wv18d, wv18l, wv18s, wv19d, wv19l, wv19s, wv20d, wv20l, wv20s, wv21d, wv21l, wv21s, wv22d, wv22l, wv22s, wv23d, wv23l, wv23s, isTy_bool_n, isTy_bool_b, isTy_bool_i, isTy_bool_s, isTy_bool_l, isTy_bool_t, isTy_bool_d, isTy_int_n, isTy_int_b, isTy_int_i, isTy_int_s, isTy_int_l, isTy_int_t, isTy_int_d, isTy_str_n, isTy_str_b, isTy_str_i, isTy_str_s, isTy_str_l, isTy_str_t, isTy_str_d, isTy_list_n, isTy_list_b, isTy_list_i, isTy_list_s, isTy_list_l, isTy_list_t, isTy_list_d, isTy_tuple_n, isTy_tuple_b, isTy_tuple_i, isTy_tuple_s, isTy_tuple_l, isTy_tuple_t, isTy_tuple_d, isTy_dict_n, isTy_dict_b, isTy_dict_i, isTy_dict_s, isTy_dict_l, isTy_dict_t, isTy_dict_d, optP_some, optP_ite, optP_map, rd_dat, rd_loc, rdL_nil, rdL_cons, gAdd_ii, gAdd_ss, gAdd_ll, gAdd_tt, gMul_ii, gMul_li, gII_ii, gII0_ii, gIB_ii, gNeg_i, gEq_fii, gEq_tii, gEq_fbb, gIs_fn, gIs_tn, gIs_fb, gIs_tb, isNone_none, isNone_int, isNone_tuple, isNone_str, gTru_b, gTru_i, gTru_n, gTru_l, gTru_t, gTru_s, atI_0, atI_1, atI_2, atI_3, atI_4, atI_5, gIx_l, gIx_t, gIx_s, gAbs_i, gMin_ii, gInt_i, gInt_b, gInt_s, gStr_i, gLen_s, gLen_l, gLen_t, gTuple_l, gTuple_t, gAny_l, gAll_l, frT_dat, frT_lst, asLoc_loc, asInt_int, asStr_str, seqOf_l, seqOf_t, gN_eq, gN0_eq, gN1_eq, gT_eq, argsT_nil, argsT_cons, argT_dat, argT_loc, putBack_nil, putBack_dat, putBack_loc, distinct_nil, distinct_dat, distinct_loc, hasLoc_nil, hasLoc_dat, hasLoc_loc, lstAt, List.getElem?_cons_zero, List.getElem?_cons_succ, List.set_cons_zero, List.set_cons_succ, List.length_cons, List.length_nil, true_and, and_true])
/-! ### _law_start -/
theorem bits_bd {z : Int} (h : Builtin.Int.intBits z ≤ 1048576) : Bd 1048577 z := by
  unfold Builtin.Int.intBits at h
  unfold Bd
  by_cases h0 : z = 0
  · subst h0
    exact Nat.two_pow_pos _
  · rw [show (z == 0) = false from beq_eq_false_iff_ne.mpr h0] at h
    have h1 : z.natAbs.log2 + 1 ≤ 1048576 := h
    exact (Nat.log2_lt (by omega)).mp (by omega)
theorem seed_lo {a : Int} : 0 ≤ a.fmod 2147483629 := fmod_lo (by decide)
theorem seed_hi {a : Int} : a.fmod 2147483629 < 2147483629 := fmod_hi (by decide)
theorem atI_get {α : Type} {l : List α} {k : Nat} (h : k < l.length) : atI l (k : Int) = some l[k] := by
  exact atI_nat (List.getElem?_eq_getElem h)
theorem wp_start {a : Addr} {ns : List Int} {Q : T → DEnv → Prop} (hl : ns.length ≤ 100000) (hb : ∀ z ∈ ns, Builtin.Int.intBits z ≤ 1048576) (q : ∀ ds, St 0 ds → Q (.lst ds) [some (.scr a ns)]) : wp m_law_start [some (.scr a ns)] Q := by
  refine wp_fnE rfl ?_
  show wp b_law_start [some (.scr a ns), none, none, none, none, none] _
  unfold b_law_start
  refine wp_seq [some (.scr a ns), some (.dat (.int 0)), none, none, none, none] (by walk_at "sy") ?_
  refine wp_seq [some (.scr a ns), some (.dat (.int 0)), some (.dat (.int 17)), none, none, none] (by walk_at "sy") ?_
  refine wp_seqE (fun ρ => ∃ g s o3 o4, 0 ≤ s ∧ s < 2147483629 ∧ ρ = [some (.scr a ns), some (.dat (.int g)), some (.dat (.int s)), o3, o4, none]) ?_ ?_
  · walk_at "sy"
    refine ⟨by unfold inRange; rw [Bool.and_eq_true]; exact ⟨decide_eq_true (by split <;> omega), decide_eq_true (by split <;> omega)⟩, ?_⟩
    refine wp_for (fun ds ρ => (∀ d ∈ ds, ∃ k : Nat, d = .int k ∧ k < ns.length ∧ k < 63) ∧ ∃ g s o3 o4, 0 ≤ s ∧ s < 2147483629 ∧ ρ = [some (.scr a ns), some (.dat (.int g)), some (.dat (.int s)), o3, o4, none]) (fun d ds ρ ⟨h1, g, s, o3, o4, hs0, hs1, e⟩ => ?_) (fun ρ ⟨_, h⟩ => ⟨rfl, h⟩) _ _ ⟨?_, 0, 17, none, none, by decide, by decide, rfl⟩
    · subst e
      obtain ⟨k, rfl, hk, hk63⟩ := h1 d (by simp)
      rw [gN_eq, optP_some]
      show wp _ [some (.scr a ns), some (.dat (.int g)), some (.dat (.int s)), some (.dat (.int k)), o4, none] _
      have hz := bits_bd (hb ns[k] (List.getElem_mem hk))
      generalize ez : ns[k] = z at hz
      have hkb : Bd 10 (k : Int) := bd_of (by omega) (by omega)
      have hsb : Bd 31 s := bd31 hs0 (by omega)
      refine wp_seq [some (.scr a ns), some (.dat (.int g)), some (.dat (.int s)), some (.dat (.int k)), some (.dat (.int z)), none] ?_ ?_
      · walk_at "sy"
        rw [atI_get hk, optP_some, ez]
      refine wp_seqE (fun ρ => ∃ g', ρ = [some (.scr a ns), some (.dat (.int g')), some (.dat (.int s)), some (.dat (.int k)), some (.dat (.int z)), none]) ?_ ?_
      · refine wp_ifB ((g == 0) && decide (10 ^ 18 ≤ z)) ?_ (fun _ => ?_) (fun _ => ?_)
        · refine wp_andT (g == 0) (decide (10 ^ 18 ≤ z)) ?_ (fun _ => ?_) ⟨rfl, rfl⟩
          · walk_at "sy"
          · walk_at "sy"
            exact ⟨by decide, rfl⟩
        · walk_at "sy"
          exact ⟨z, rfl⟩
        · exact ⟨rfl, g, rfl⟩
      intro ρ1 ⟨g', e⟩
      subst e
      walk_at "sy"
      refine ⟨mulOk_of hsb (l := 20) (by decide) (by decide), mulOk_of (k := 20) (by decide) hkb (by decide), mulOk_of hz (l := 20) (bd_of (by omega) (by omega)) (by decide), by decide, ?_⟩
      exact ⟨fun d hd => h1 d (by simp [hd]), g', _, _, _, seed_lo, seed_hi, rfl⟩
    · intro d hd
      unfold rngD at hd
      rw [List.mem_map] at hd
      obtain ⟨k, hk, rfl⟩ := hd
      rw [List.mem_range] at hk
      refine ⟨k, by rw [Int.zero_add], ?_, ?_⟩
      · split at hk <;> omega
      · split at hk <;> omega
  intro ρ1 ⟨g, s, o3, o4, hs0, hs1, e⟩
  subst e
  refine wp_seqE (fun ρ => ∃ s o5, 0 ≤ s ∧ s < 2147483629 ∧ ρ = [some (.scr a ns), some (.dat (.int g)), some (.dat (.int s)), o3, o4, o5]) ?_ ?_
  · walk_at "sy"
    refine ⟨by decide, ?_⟩
    refine wp_for (fun ds ρ => (∀ d ∈ ds, ∃ k : Nat, d = .int k ∧ k < 63) ∧ ∃ s o5, 0 ≤ s ∧ s < 2147483629 ∧ ρ = [some (.scr a ns), some (.dat (.int g)), some (.dat (.int s)), o3, o4, o5]) (fun d ds ρ ⟨h1, s, o5, hs0, hs1, e⟩ => ?_) (fun ρ ⟨_, h⟩ => ⟨rfl, h⟩) _ _ ⟨?_, s, none, hs0, hs1, rfl⟩
    · subst e
      obtain ⟨k, rfl, hk⟩ := h1 d (by simp)
      rw [gN_eq, optP_some]
      show wp _ [some (.scr a ns), some (.dat (.int g)), some (.dat (.int s)), o3, o4, some (.dat (.int k))] _
      have hkb : Bd 10 (k : Int) := bd_of (by omega) (by omega)
      have hsb : Bd 31 s := bd31 hs0 (by omega)
      walk_at "sy"
      refine ⟨mulOk_of hsb hsb (by decide), mulOk_of (k := 20) (by decide) hsb (by decide), mulOk_of (k := 20) (by decide) hkb (by decide), by decide, ?_⟩
      exact ⟨fun d hd => h1 d (by simp [hd]), _, _, seed_lo, seed_hi, rfl⟩
    · intro d hd
      unfold rngD at hd
      rw [List.mem_map] at hd
      obtain ⟨k, hk, rfl⟩ := hd
      rw [List.mem_range] at hk
      exact ⟨k, by rw [Int.zero_add], by have : (3 : Int).toNat = 3 := rfl; omega⟩
  intro ρ2 ⟨s, o5, hs0, hs1, e⟩
  subst e
  walk_at "sy"
  exact ⟨rfl, _, rfl, q _ ⟨_, _, _, rfl, hs0, hs1, by decide, by decide⟩⟩
/-! ### _law_values -/
def vals (x : Fr) : List PyData := [.tuple [.int (2 * x.1), .int (2 * x.2)], .tuple [.int x.1, .int (-x.2)], .tuple [.int x.1, .int 0], .list [.int x.1, .int x.2], .tuple [.int x.1], .tuple [.int x.1, .int x.2, .int 1], .str (S (zL x.1)), .none, .int x.1,
  .tuple [.bool true, .int 1], .tuple [.int 1, .bool true], .tuple [.int 0, .int 2], .tuple [.str (Str.ofString "1"), .str (Str.ofString "2")], .tuple [.tuple [.int 1, .int 1], .int 1], .tuple [.int (3 * x.1), .int (3 * x.2)], .tuple [.int (-2), .int 4], .dict [], .bool true]
theorem e_law_values (x : Fr) (h1 : Bd 1900 x.1) (h2 : Bd 1900 x.2) : m_law_values [some (.dat (frD x))] = some (.dat (.list (vals x)), [some (.dat (frD x))]) := by
  refine wp_fn rfl ?_
  show wp b_law_values [some (.dat (frD x)), none, none, none] _
  unfold b_law_values
  refine wp_seq [some (.dat (frD x)), some (.dat (.int x.1)), some (.dat (.int x.2)), none] (by unfold frD; walk_at "sy") ?_
  have b2 : Bd 3 2 := by decide
  have b3 : Bd 3 3 := by decide
  refine wp_seq [some (.dat (frD x)), some (.dat (.int x.1)), some (.dat (.int x.2)), some (.dat (.list ((vals x).take 14)))] ?_ ?_
  · walk_at "sy"
    rw [str_zL]
    refine ⟨mulOk_of b2 h1 (by decide), mulOk_of b2 h2 (by decide), rfl, rfl, rfl, rfl, rfl, rfl, decide_eq_true (bd_log h1), rfl, rfl, rfl, rfl, rfl, rfl, rfl, rfl⟩
  · walk_at "sy"
    refine ⟨mulOk_of b3 h1 (by decide), mulOk_of b3 h2 (by decide), rfl, rfl, rfl, ?_⟩
    exact ⟨rfl, rfl, rfl⟩
theorem vals_not {x : Fr} (hx : Low x) : ∀ d ∈ vals x, isF d = false := by
  have hq := hx.1
  intro d hd
  unfold vals at hd
  simp only [List.mem_cons, List.not_mem_nil, or_false] at hd
  have g2 : Int.gcd (2 * x.1) (2 * x.2) = 2 := by rw [Int.gcd_mul_left, hx.2]; rfl
  have g3 : Int.gcd (3 * x.1) (3 * x.2) = 3 := by rw [Int.gcd_mul_left, hx.2]; rfl
  rcases hd with h | h | h | h | h | h | h | h | h | h | h | h | h | h | h | h | h | h <;> subst h <;> try rfl
  · show (decide (0 < 2 * x.2) && decide (Int.gcd (2 * x.1) (2 * x.2) = 1)) = false
    rw [g2]; simp
  · show (decide (0 < -x.2) && _) = false
    rw [decide_eq_false (by omega)]; rfl
  · show (decide (0 < 3 * x.2) && decide (Int.gcd (3 * x.1) (3 * x.2) = 1)) = false
    rw [g3]; simp
theorem w_vals {a0 a1 a2 a3 a4 a5 a6 a7 a8 a9 b0 b1 b2 : Option T} : ∀ (ds : List PyData) {Q : List PyData → DEnv → Prop}, (∀ d ∈ ds, isF d = false) → Q [] [a0, a1, a2, a3, a4, a5, a6, a7, a8, a9, b0, b1, b2, none] →
    wp (mLcL [13] (gN 13) (mTV (mOp (gIs true) (mD (mFr (mCl m_is_fraction (mA1 (mVar 13) mA0)))) (mD (mC (.bool false))))) (mSet (mVar 13)) ds) [a0, a1, a2, a3, a4, a5, a6, a7, a8, a9, b0, b1, b2, none] Q
  | [], Q, _, q => q
  | d :: ds, Q, h, q => by
    rw [wp_LcCons, gN_eq, optP_some]
    show wp _ [a0, a1, a2, a3, a4, a5, a6, a7, a8, a9, b0, b1, b2, some (.dat d)] _
    walk_at "sy"
    rw [wp_eq (e_is_fraction d), h d (by simp)]
    walk_at "sy"
    exact w_vals ds (fun z hz => h z (by simp [hz])) q
end K00
-- K00G
namespace K00
open PySem L2 Sem Num PyProof.Rows SX Txs
local macro_rules | `(tactic| walk_at "sy") => `(tactic| try simp only [↓c_Lc, c_Lc, ↓wv23s, ↓wv23l, ↓wv23d, ↓wv22s, ↓wv22l, ↓wv22d, ↓wv21s, ↓wv21l, ↓wv21d, ↓wv20s, ↓wv20l, ↓wv20d, ↓wv19s, ↓wv19l, ↓wv19d, ↓wv18s, ↓wv18l, ↓wv18d, ↓wv17s, ↓wv17l, ↓wv17d, ↓wv16s, ↓wv16l, ↓wv16d, ↓wv15s, ↓wv15l, ↓wv15d, ↓wv14s, ↓wv14l, ↓wv14d, ↓wv13s, ↓wv13l, ↓wv13d, ↓wv12s, ↓wv12l, ↓wv12d, ↓wv11s, ↓wv11l, ↓wv11d, ↓wv10s, ↓wv10l, ↓wv10d, ↓wv9s, ↓wv9l, ↓wv9d, ↓wv8s, ↓wv8l, ↓wv8d, ↓wv7s, ↓wv7l, ↓wv7d, ↓wv6s, ↓wv6l, ↓wv6d, ↓wv5s, ↓wv5l, ↓wv5d, ↓wv4s, ↓wv4l, ↓wv4d, ↓wv3s, ↓wv3l, ↓wv3d, ↓wv2s, ↓wv2l, ↓wv2d, ↓wv1s, ↓wv1l, ↓wv1d, ↓wv0s, ↓wv0l, ↓wv0d, ↓c_C, ↓c_D, ↓c_Set, ↓c_Fr, ↓c_O, ↓c_Op, ↓c_TV, ↓c_Chain, ↓c_Un, ↓c_AndT, ↓c_OrT, ↓c_NotT, ↓c_AndV, ↓c_OrV, ↓c_NotV, ↓c_If, ↓c_A0, ↓c_A1, ↓c_L0, ↓c_L1, ↓c_Tup, ↓c_Lst, ↓c_Call, ↓c_Nx, ↓c_Bk, ↓c_Ct, ↓c_No, ↓c_Seq, ↓c_Asg, ↓c_AsgO, ↓c_AsgG, ↓c_Par, ↓c_Par3, ↓c_SetIx, ↓c_Mt, ↓c_Drop, ↓c_Ret, ↓c_RetN, ↓c_RetV, ↓c_Tru, ↓c_Isi, ↓c_Part, ↓c_NoPart, ↓c_Sl, ↓c_MS, ↓c_Dict0, ↓c_SeqI, ↓c_StrI, ↓c_Rng1, ↓c_For, ↓c_Yes, ↓c_Cl, ↓c_ScrLen, ↓c_ScrIx, c_C, c_D, c_Set, c_Fr, c_O, c_Op, c_TV, c_Chain, c_Un, c_AndT, c_OrT, c_NotT, c_AndV, c_OrV, c_NotV, c_If, c_A0, c_A1, c_L0, c_L1, c_Tup, c_Lst, c_Call, c_Nx, c_Bk, c_Ct, c_No, c_Seq, c_Asg, c_AsgO, c_AsgG, c_Par, c_Par3, c_SetIx, c_Mt, c_Drop, c_Ret, c_RetN, c_RetV, c_Tru, c_Isi, c_Part, c_NoPart, c_Sl, c_MS, c_Dict0, c_SeqI, c_StrI, c_Rng1, c_For, c_Yes, c_Cl, c_ScrLen, c_ScrIx, wv0d, wv0l, wv0s, wv1d, wv1l, wv1s, wv2d, wv2l, wv2s, wv3d, wv3l, wv3s, wv4d, wv4l, wv4s, wv5d, wv5l, wv5s, wv6d, wv6l, wv6s, wv7d, wv7l, wv7s, wv8d, wv8l, wv8s, wv9d, wv9l, wv9s, wv10d, wv10l, wv10s, wv11d, wv11l, wv11s, wv12d, wv12l, wv12s, wv13d, wv13l, wv13s, wv14d, wv14l, wv14s, wv15d, wv15l, wv15s, wv16d, wv16l, wv16s, wv17d, wv17l, wv17s, wv18d, wv18l, wv18s, wv19d, wv19l, wv19s, wv20d, wv20l, wv20s, wv21d, wv21l, wv21s, wv22d, wv22l, wv22s, wv23d, wv23l, wv23s, isTy_bool_n, isTy_bool_b, isTy_bool_i, isTy_bool_s, isTy_bool_l, isTy_bool_t, isTy_bool_d, isTy_int_n, isTy_int_b, isTy_int_i, isTy_int_s, isTy_int_l, isTy_int_t, isTy_int_d, isTy_str_n, isTy_str_b, isTy_str_i, isTy_str_s, isTy_str_l, isTy_str_t, isTy_str_d, isTy_list_n, isTy_list_b, isTy_list_i, isTy_list_s, isTy_list_l, isTy_list_t, isTy_list_d, isTy_tuple_n, isTy_tuple_b, isTy_tuple_i, isTy_tuple_s, isTy_tuple_l, isTy_tuple_t, isTy_tuple_d, isTy_dict_n, isTy_dict_b, isTy_dict_i, isTy_dict_s, isTy_dict_l, isTy_dict_t, isTy_dict_d, optP_some, optP_ite, optP_map, rd_dat, rd_loc, rdL_nil, rdL_cons, gAdd_ii, gAdd_ss, gAdd_ll, gAdd_tt, gMul_ii, gMul_li, gII_ii, gII0_ii, gIB_ii, gNeg_i, gEq_fii, gEq_tii, gEq_fbb, gIs_fn, gIs_tn, gIs_fb, gIs_tb, isNone_none, isNone_int, isNone_tuple, isNone_str, gTru_b, gTru_i, gTru_n, gTru_l, gTru_t, gTru_s, atI_0, atI_1, atI_2, atI_3, atI_4, atI_5, gIx_l, gIx_t, gIx_s, gAbs_i, gMin_ii, gInt_i, gInt_b, gInt_s, gStr_i, gLen_s, gLen_l, gLen_t, gTuple_l, gTuple_t, gAny_l, gAll_l, frT_dat, frT_lst, asLoc_loc, asInt_int, asStr_str, seqOf_l, seqOf_t, gN_eq, gN0_eq, gN1_eq, gT_eq, argsT_nil, argsT_cons, argT_dat, argT_loc, putBack_nil, putBack_dat, putBack_loc, distinct_nil, distinct_dat, distinct_loc, hasLoc_nil, hasLoc_dat, hasLoc_loc, lstAt, List.getElem?_cons_zero, List.getElem?_cons_succ, List.set_cons_zero, List.set_cons_succ, List.length_cons, List.length_nil, true_and, and_true])
/-! ### _law_same -/
def Sm : Nat → PyData → Prop
  | 0, _ => False
  | n + 1, .none => True
  | n + 1, .bool _ => True
  | n + 1, .int _ => True
  | n + 1, .str x => PyData.strOk x = true
  | n + 1, .list ds => ds.length ≤ 100000 ∧ ∀ d ∈ ds, Sm n d
  | n + 1, .tuple ds => ds.length ≤ 100000 ∧ ∀ d ∈ ds, Sm n d
  | n + 1, .dict _ => False
theorem same_loop {n : Nat} {x : PyData} {ds : List PyData} (hx : ∀ k : Nat, gIx x (.int (k : Int)) = atI ds (k : Int)) (h : ∀ d ∈ ds, r_law_same n [some (.dat d), some (.dat d)] = some (.dat (.bool true), [some (.dat d), some (.dat d)])) :
    ∀ (ks : List Nat) {Q : List PyData → DEnv → Prop}, (∀ k ∈ ks, k < ds.length) → Q ((ks.map fun _ => true).map PyData.bool) [some (.dat x), some (.dat x), none, none] →
      wp (mLcL [3] (gN 3) mYes (mFr (mCl (r_law_same n) (mA1 (mD (mOp gIx (mVar 0) (mVar 3))) (mA1 (mD (mOp gIx (mVar 1) (mVar 3))) mA0)))) (ks.map fun (i : Nat) => PyData.int (0 + (i : Int)))) [some (.dat x), some (.dat x), none, none] Q
  | [], Q, _, q => q
  | k :: ks, Q, hk, q => by
    rw [List.map_cons, wp_LcCons, Int.zero_add]
    have hkl := hk k (by simp)
    walk_at "sy"
    rw [hx, show atI ds (k : Int) = some ds[k] from atI_nat (List.getElem?_eq_getElem hkl)]
    walk_at "sy"
    rw [wp_eq (h _ (List.getElem_mem hkl))]
    walk_at "sy"
    exact same_loop hx h ks (fun z hz => hk z (by simp [hz])) q
theorem inRange_len {n : Nat} (h : n ≤ 100000) : inRange (n : Int) = true := by
  unfold inRange
  rw [Bool.and_eq_true]
  exact ⟨decide_eq_true (by omega), decide_eq_true (by omega)⟩
theorem shaped_none' : gEq false .none .none = some (.bool true) := by
  rw [gEq_f, shaped_none]
  simp [PyData.eqv]
theorem e_same : ∀ (n : Nat) (d : PyData), Sm n d → r_law_same n [some (.dat d), some (.dat d)] = some (.dat (.bool true), [some (.dat d), some (.dat d)])
  | 0, d, h => h.elim
  | n + 1, d, h => by
    refine wp_fn rfl ?_
    show wp (b_law_same (r_law_same n)) [some (.dat d), some (.dat d), none, none] _
    unfold b_law_same
    cases d with
    | dict es => exact h.elim
    | bool b =>
      refine wp_seqR (.dat (.bool true)) [some (.dat (.bool b)), some (.dat (.bool b)), none, none] (wp_ifT ?_ ?_) ⟨rfl, rfl⟩
      · walk_at "sy"
      · walk_at "sy"
        rw [beq_self_eq_true]
    | none =>
      refine wp_seq [some (.dat .none), some (.dat .none), none, none] (wp_ifF (by walk_at "sy") ⟨rfl, rfl⟩) ?_
      refine wp_seq [some (.dat .none), some (.dat .none), none, none] (wp_ifF (by walk_at "sy") ⟨rfl, rfl⟩) ?_
      refine wp_seq [some (.dat .none), some (.dat .none), none, none] (wp_ifF (by walk_at "sy"; rfl) ⟨rfl, rfl⟩) ?_
      refine wp_seq [some (.dat .none), some (.dat .none), none, none] (wp_ifF (by walk_at "sy") ⟨rfl, rfl⟩) ?_
      walk_at "sy"
      rw [shaped_none']
      first | exact ⟨rfl, rfl⟩ | exact ⟨trivial, rfl⟩
    | int i =>
      refine wp_seq [some (.dat (.int i)), some (.dat (.int i)), none, none] (wp_ifF (by walk_at "sy") ⟨rfl, rfl⟩) ?_
      refine wp_seq [some (.dat (.int i)), some (.dat (.int i)), none, none] (wp_ifF (by walk_at "sy") ⟨rfl, rfl⟩) ?_
      refine wp_seq [some (.dat (.int i)), some (.dat (.int i)), none, none] (wp_ifF (by walk_at "sy"; rfl) ⟨rfl, rfl⟩) ?_
      refine wp_seq [some (.dat (.int i)), some (.dat (.int i)), none, none] (wp_ifF (by walk_at "sy") ⟨rfl, rfl⟩) ?_
      walk_at "sy"
      simp only [beq_self_eq_true]
      exact ⟨trivial, rfl⟩
    | str x =>
      have hx : PyData.strOk x = true := h
      have hs : SeqAt.shaped (.str x) = true := by
        unfold SeqAt.shaped
        simp [PyData.canLay0, PyData.depth, hx]
      refine wp_seq [some (.dat (.str x)), some (.dat (.str x)), none, none] (wp_ifF (by walk_at "sy") ⟨rfl, rfl⟩) ?_
      refine wp_seq [some (.dat (.str x)), some (.dat (.str x)), none, none] (wp_ifF (by walk_at "sy") ⟨rfl, rfl⟩) ?_
      refine wp_seq [some (.dat (.str x)), some (.dat (.str x)), none, none] (wp_ifF (by walk_at "sy"; rfl) ⟨rfl, rfl⟩) ?_
      refine wp_seq [some (.dat (.str x)), some (.dat (.str x)), none, none] (wp_ifF (by walk_at "sy") ⟨rfl, rfl⟩) ?_
      walk_at "sy"
      rw [gEq_f, hs]
      simp only [PyData.eqv, beq_self_eq_true, Bool.and_self, if_true, optP_some]
      first | exact ⟨rfl, rfl⟩ | exact ⟨trivial, rfl⟩
    | list ds =>
      have ih := fun d hd => e_same n d (h.2 d hd)
      have hl := h.1
      refine wp_seq [some (.dat (.list ds)), some (.dat (.list ds)), none, none] (wp_ifF (by walk_at "sy") ⟨rfl, rfl⟩) ?_
      refine wp_seq [some (.dat (.list ds)), some (.dat (.list ds)), none, none] (wp_ifF (by walk_at "sy") ⟨rfl, rfl⟩) ?_
      refine wp_seq [some (.dat (.list ds)), some (.dat (.list ds)), none, none] (wp_ifF (by walk_at "sy"; rfl) ⟨rfl, rfl⟩) ?_
      refine wp_seqR (.dat (.bool true)) [some (.dat (.list ds)), some (.dat (.list ds)), none, none] (wp_ifT (by walk_at "sy") ?_) ⟨rfl, rfl⟩
      walk_at "sy"
      rw [beq_self_eq_true]
      walk_at "sy"
      refine ⟨inRange_len hl, ?_⟩
      rw [Int.toNat_natCast]
      unfold rngD
      refine ⟨by rw [List.length_map, List.length_range]; unfold small; exact decide_eq_true (by omega), ?_⟩
      refine same_loop (x := .list ds) (ds := ds) (fun k => rfl) ih (List.range ds.length) (fun k hk => List.mem_range.mp hk) ?_
      walk_at "sy"
      simp
    | tuple ds =>
      have ih := fun d hd => e_same n d (h.2 d hd)
      have hl := h.1
      refine wp_seq [some (.dat (.tuple ds)), some (.dat (.tuple ds)), none, none] (wp_ifF (by walk_at "sy") ⟨rfl, rfl⟩) ?_
      refine wp_seq [some (.dat (.tuple ds)), some (.dat (.tuple ds)), none, none] (wp_ifF (by walk_at "sy") ⟨rfl, rfl⟩) ?_
      refine wp_seq [some (.dat (.tuple ds)), some (.dat (.tuple ds)), none, none] (wp_ifF (by walk_at "sy"; rfl) ⟨rfl, rfl⟩) ?_
      refine wp_seqR (.dat (.bool true)) [some (.dat (.tuple ds)), some (.dat (.tuple ds)), none, none] (wp_ifT (by walk_at "sy") ?_) ⟨rfl, rfl⟩
      walk_at "sy"
      rw [beq_self_eq_true]
      walk_at "sy"
      refine ⟨inRange_len hl, ?_⟩
      rw [Int.toNat_natCast]
      unfold rngD
      refine ⟨by rw [List.length_map, List.length_range]; unfold small; exact decide_eq_true (by omega), ?_⟩
      refine same_loop (x := .tuple ds) (ds := ds) (fun k => rfl) ih (List.range ds.length) (fun k hk => List.mem_range.mp hk) ?_
      walk_at "sy"
      simp
end K00
-- K00H
namespace K00
open PySem L2 Sem Num PyProof.Rows SX Txs
local macro_rules | `(tactic| walk_at "sy") => `(tactic| try simp only [↓c_Lc, c_Lc, ↓wv23s, ↓wv23l, ↓wv23d, ↓wv22s, ↓wv22l, ↓wv22d, ↓wv21s, ↓wv21l, ↓wv21d, ↓wv20s, ↓wv20l, ↓wv20d, ↓wv19s, ↓wv19l, ↓wv19d, ↓wv18s, ↓wv18l, ↓wv18d, ↓wv17s, ↓wv17l, ↓wv17d, ↓wv16s, ↓wv16l, ↓wv16d, ↓wv15s, ↓wv15l, ↓wv15d, ↓wv14s, ↓wv14l, ↓wv14d, ↓wv13s, ↓wv13l, ↓wv13d, ↓wv12s, ↓wv12l, ↓wv12d, ↓wv11s, ↓wv11l, ↓wv11d, ↓wv10s, ↓wv10l, ↓wv10d, ↓wv9s, ↓wv9l, ↓wv9d, ↓wv8s, ↓wv8l, ↓wv8d, ↓wv7s, ↓wv7l, ↓wv7d, ↓wv6s, ↓wv6l, ↓wv6d, ↓wv5s, ↓wv5l, ↓wv5d, ↓wv4s, ↓wv4l, ↓wv4d, ↓wv3s, ↓wv3l, ↓wv3d, ↓wv2s, ↓wv2l, ↓wv2d, ↓wv1s, ↓wv1l, ↓wv1d, ↓wv0s, ↓wv0l, ↓wv0d, ↓c_C, ↓c_D, ↓c_Set, ↓c_Fr, ↓c_O, ↓c_Op, ↓c_TV, ↓c_Chain, ↓c_Un, ↓c_AndT, ↓c_OrT, ↓c_NotT, ↓c_AndV, ↓c_OrV, ↓c_NotV, ↓c_If, ↓c_A0, ↓c_A1, ↓c_L0, ↓c_L1, ↓c_Tup, ↓c_Lst, ↓c_Call, ↓c_Nx, ↓c_Bk, ↓c_Ct, ↓c_No, ↓c_Seq, ↓c_Asg, ↓c_AsgO, ↓c_AsgG, ↓c_Par, ↓c_Par3, ↓c_SetIx, ↓c_Mt, ↓c_Drop, ↓c_Ret, ↓c_RetN, ↓c_RetV, ↓c_Tru, ↓c_Isi, ↓c_Part, ↓c_NoPart, ↓c_Sl, ↓c_MS, ↓c_Dict0, ↓c_SeqI, ↓c_StrI, ↓c_Rng1, ↓c_For, ↓c_Yes, ↓c_Cl, ↓c_ScrLen, ↓c_ScrIx, c_C, c_D, c_Set, c_Fr, c_O, c_Op, c_TV, c_Chain, c_Un, c_AndT, c_OrT, c_NotT, c_AndV, c_OrV, c_NotV, c_If, c_A0, c_A1, c_L0, c_L1, c_Tup, c_Lst, c_Call, c_Nx, c_Bk, c_Ct, c_No, c_Seq, c_Asg, c_AsgO, c_AsgG, c_Par, c_Par3, c_SetIx, c_Mt, c_Drop, c_Ret, c_RetN, c_RetV, c_Tru, c_Isi, c_Part, c_NoPart, c_Sl, c_MS, c_Dict0, c_SeqI, c_StrI, c_Rng1, c_For, c_Yes, c_Cl, c_ScrLen, c_ScrIx, wv0d, wv0l, wv0s, wv1d, wv1l, wv1s, wv2d, wv2l, wv2s, wv3d, wv3l, wv3s, wv4d, wv4l, wv4s, wv5d, wv5l, wv5s, wv6d, wv6l, wv6s, wv7d, wv7l, wv7s, wv8d, wv8l, wv8s, wv9d, wv9l, wv9s, wv10d, wv10l, wv10s, wv11d, wv11l, wv11s, wv12d, wv12l, wv12s, wv13d, wv13l, wv13s, wv14d, wv14l, wv14s, wv15d, wv15l, wv15s, wv16d, wv16l, wv16s, wv17d, wv17l, wv17s, wv18d, wv18l, wv18s, wv19d, wv19l, wv19s, wv20d, wv20l, wv20s, wv21d, wv21l, wv21s, wv22d, wv22l, wv22s, wv23d, wv23l, wv23s, isTy_bool_n, isTy_bool_b, isTy_bool_i, isTy_bool_s, isTy_bool_l, isTy_bool_t, isTy_bool_d, isTy_int_n, isTy_int_b, isTy_int_i, isTy_int_s, isTy_int_l, isTy_int_t, isTy_int_d, isTy_str_n, isTy_str_b, isTy_str_i, isTy_str_s, isTy_str_l, isTy_str_t, isTy_str_d, isTy_list_n, isTy_list_b, isTy_list_i, isTy_list_s, isTy_list_l, isTy_list_t, isTy_list_d, isTy_tuple_n, isTy_tuple_b, isTy_tuple_i, isTy_tuple_s, isTy_tuple_l, isTy_tuple_t, isTy_tuple_d, isTy_dict_n, isTy_dict_b, isTy_dict_i, isTy_dict_s, isTy_dict_l, isTy_dict_t, isTy_dict_d, optP_some, optP_ite, optP_map, rd_dat, rd_loc, rdL_nil, rdL_cons, gAdd_ii, gAdd_ss, gAdd_ll, gAdd_tt, gMul_ii, gMul_li, gII_ii, gII0_ii, gIB_ii, gNeg_i, gEq_fii, gEq_tii, gEq_fbb, gIs_fn, gIs_tn, gIs_fb, gIs_tb, isNone_none, isNone_int, isNone_tuple, isNone_str, gTru_b, gTru_i, gTru_n, gTru_l, gTru_t, gTru_s, atI_0, atI_1, atI_2, atI_3, atI_4, atI_5, gIx_l, gIx_t, gIx_s, gAbs_i, gMin_ii, gInt_i, gInt_b, gInt_s, gStr_i, gLen_s, gLen_l, gLen_t, gTuple_l, gTuple_t, gAny_l, gAll_l, frT_dat, frT_lst, asLoc_loc, asInt_int, asStr_str, seqOf_l, seqOf_t, gN_eq, gN0_eq, gN1_eq, gT_eq, argsT_nil, argsT_cons, argT_dat, argT_loc, putBack_nil, putBack_dat, putBack_loc, distinct_nil, distinct_dat, distinct_loc, hasLoc_nil, hasLoc_dat, hasLoc_loc, lstAt, List.getElem?_cons_zero, List.getElem?_cons_succ, List.set_cons_zero, List.set_cons_succ, List.length_cons, List.length_nil, true_and, and_true])
theorem law_at {n : Nat} {l : List Int} : True := trivial
structure SmOk (d : PyData) : Prop where
  h : Sm 8 d
theorem SmOk.list {ds : List PyData} (hl : ds.length ≤ 100000) (h : ∀ d ∈ ds, Sm 7 d) : SmOk (.list ds) := ⟨⟨hl, h⟩⟩
theorem SmOk.int {i : Int} : SmOk (.int i) := ⟨trivial⟩
theorem sm_str {n : Nat} {x : Str} (h : PyData.strOk x = true) : Sm (n + 1) (.str x) := h
theorem wp_same {d : PyData} {Q : T → DEnv → Prop} (h : SmOk d) (q : Q (.dat (.bool true)) [some (.dat d), some (.dat d)]) : wp m_law_same [some (.dat d), some (.dat d)] Q := by
  have e : m_law_same [some (.dat d), some (.dat d)] = some (.dat (.bool true), [some (.dat d), some (.dat d)]) := by
    rw [m_law_same_eq]
    exact e_same 8 d h.h
  rw [wp_eq e]
  exact q
/-- two things that are the same -/
theorem wp_same2 {d e : PyData} {Q : T → DEnv → Prop} (he : d = e) (h : SmOk d) (q : Q (.dat (.bool true)) [some (.dat d), some (.dat e)]) : wp m_law_same [some (.dat d), some (.dat e)] Q := by
  subst he
  exact wp_same h q
theorem sm_int {n : Nat} {i : Int} : Sm (n + 1) (.int i) := trivial
theorem sm_bool {n : Nat} {i : Bool} : Sm (n + 1) (.bool i) := trivial
theorem sm_fr {n : Nat} {x : Fr} : Sm (n + 2) (frD x) := ⟨by simp, fun d hd => by
  simp only [List.mem_cons, List.not_mem_nil, or_false] at hd
  rcases hd with h | h <;> subst h <;> trivial⟩
theorem okS_tL {x : Fr} : okS (tL x) := fun c hc => by
  unfold tL at hc
  split at hc
  · exact ok_zL c hc
  · rcases List.mem_append.mp hc with hc | hc
    · exact ok_zL c hc
    · rcases List.mem_append.mp hc with hc | hc
      · simp at hc; omega
      · exact ok_zL c hc
theorem sm_num {n : Nat} {x : Fr} : Sm (n + 2) (numF x) := by
  unfold numF
  split
  · exact sm_fr
  · trivial
theorem w_nums {a0 a2 a3 a4 a5 a6 a7 a8 a9 b0 b1 b3 : Option T} : ∀ (ks : List PyData) (N : Nat) (st : List PyData) {Q : List PyData → DEnv → Prop}, St N st → N + 10 * ks.length ≤ 2 ^ 28 →
    (∀ (xs : List Fr) (st' : List PyData), (∀ x ∈ xs, FB 200 x) → xs.length = ks.length → St (N + 10 * ks.length) st' → Q (xs.map frD) [a0, some (.lst st'), a2, a3, a4, a5, a6, a7, a8, a9, b0, b1, none, b3]) →
    wp (mLcL [12] (gN 12) mYes (mFr (mCl m_law_fraction (mA1 (mVar 1) mA0))) ks) [a0, some (.lst st), a2, a3, a4, a5, a6, a7, a8, a9, b0, b1, none, b3] Q
  | [], N, st, Q, hS, _, q => q [] st (fun _ h => by cases h) rfl hS
  | k :: ks, N, st, Q, hS, hN, q => by
    rw [List.length_cons] at hN
    rw [wp_LcCons, gN_eq, optP_some]
    show wp _ [a0, some (.lst st), a2, a3, a4, a5, a6, a7, a8, a9, b0, b1, some (.dat k), b3] _
    walk_at "sy"
    refine ⟨rfl, wp_fraction hS (by omega) fun x st1 hx hS1 => ?_⟩
    walk_at "sy"
    refine w_nums ks (N + 10) st1 hS1 (by omega) fun xs st2 h1 h2 h3 => ?_
    refine q (x :: xs) st2 (fun z hz => ?_) (by simp [h2]) ?_
    · rcases List.mem_cons.mp hz with e | hz
      · rw [e]; exact hx
      · exact h1 z hz
    · rw [List.length_cons]
      exact h3.mono (by omega)
theorem totF_back {xs : List Fr} {x : Fr} (hx : Low x) (h : ∀ y ∈ xs, FB 200 y) : totF (xs ++ [x, negF x]) = totF xs := by
  unfold totF
  rw [List.foldl_append]
  exact add_neg_back (fold_low xs (0, 1) low01 fun y hy => (h y hy).1) hx
theorem low_sizeF {x : Fr} : True := trivial
end K00
-- K00I
namespace K00
open PySem L2 Sem Num PyProof.Rows SX Txs
local macro_rules | `(tactic| walk_at "sy") => `(tactic| try simp only [↓c_Lc, c_Lc, ↓wv23s, ↓wv23l, ↓wv23d, ↓wv22s, ↓wv22l, ↓wv22d, ↓wv21s, ↓wv21l, ↓wv21d, ↓wv20s, ↓wv20l, ↓wv20d, ↓wv19s, ↓wv19l, ↓wv19d, ↓wv18s, ↓wv18l, ↓wv18d, ↓wv17s, ↓wv17l, ↓wv17d, ↓wv16s, ↓wv16l, ↓wv16d, ↓wv15s, ↓wv15l, ↓wv15d, ↓wv14s, ↓wv14l, ↓wv14d, ↓wv13s, ↓wv13l, ↓wv13d, ↓wv12s, ↓wv12l, ↓wv12d, ↓wv11s, ↓wv11l, ↓wv11d, ↓wv10s, ↓wv10l, ↓wv10d, ↓wv9s, ↓wv9l, ↓wv9d, ↓wv8s, ↓wv8l, ↓wv8d, ↓wv7s, ↓wv7l, ↓wv7d, ↓wv6s, ↓wv6l, ↓wv6d, ↓wv5s, ↓wv5l, ↓wv5d, ↓wv4s, ↓wv4l, ↓wv4d, ↓wv3s, ↓wv3l, ↓wv3d, ↓wv2s, ↓wv2l, ↓wv2d, ↓wv1s, ↓wv1l, ↓wv1d, ↓wv0s, ↓wv0l, ↓wv0d, ↓c_C, ↓c_D, ↓c_Set, ↓c_Fr, ↓c_O, ↓c_Op, ↓c_TV, ↓c_Chain, ↓c_Un, ↓c_AndT, ↓c_OrT, ↓c_NotT, ↓c_AndV, ↓c_OrV, ↓c_NotV, ↓c_If, ↓c_A0, ↓c_A1, ↓c_L0, ↓c_L1, ↓c_Tup, ↓c_Lst, ↓c_Call, ↓c_Nx, ↓c_Bk, ↓c_Ct, ↓c_No, ↓c_Seq, ↓c_Asg, ↓c_AsgO, ↓c_AsgG, ↓c_Par, ↓c_Par3, ↓c_SetIx, ↓c_Mt, ↓c_Drop, ↓c_Ret, ↓c_RetN, ↓c_RetV, ↓c_Tru, ↓c_Isi, ↓c_Part, ↓c_NoPart, ↓c_Sl, ↓c_MS, ↓c_Dict0, ↓c_SeqI, ↓c_StrI, ↓c_Rng1, ↓c_For, ↓c_Yes, ↓c_Cl, ↓c_ScrLen, ↓c_ScrIx, c_C, c_D, c_Set, c_Fr, c_O, c_Op, c_TV, c_Chain, c_Un, c_AndT, c_OrT, c_NotT, c_AndV, c_OrV, c_NotV, c_If, c_A0, c_A1, c_L0, c_L1, c_Tup, c_Lst, c_Call, c_Nx, c_Bk, c_Ct, c_No, c_Seq, c_Asg, c_AsgO, c_AsgG, c_Par, c_Par3, c_SetIx, c_Mt, c_Drop, c_Ret, c_RetN, c_RetV, c_Tru, c_Isi, c_Part, c_NoPart, c_Sl, c_MS, c_Dict0, c_SeqI, c_StrI, c_Rng1, c_For, c_Yes, c_Cl, c_ScrLen, c_ScrIx, wv0d, wv0l, wv0s, wv1d, wv1l, wv1s, wv2d, wv2l, wv2s, wv3d, wv3l, wv3s, wv4d, wv4l, wv4s, wv5d, wv5l, wv5s, wv6d, wv6l, wv6s, wv7d, wv7l, wv7s, wv8d, wv8l, wv8s, wv9d, wv9l, wv9s, wv10d, wv10l, wv10s, wv11d, wv11l, wv11s, wv12d, wv12l, wv12s, wv13d, wv13l, wv13s, wv14d, wv14l, wv14s, wv15d, wv15l, wv15s, wv16d, wv16l, wv16s, wv17d, wv17l, wv17s, wv18d, wv18l, wv18s, wv19d, wv19l, wv19s, wv20d, wv20l, wv20s, wv21d, wv21l, wv21s, wv22d, wv22l, wv22s, wv23d, wv23l, wv23s, isTy_bool_n, isTy_bool_b, isTy_bool_i, isTy_bool_s, isTy_bool_l, isTy_bool_t, isTy_bool_d, isTy_int_n, isTy_int_b, isTy_int_i, isTy_int_s, isTy_int_l, isTy_int_t, isTy_int_d, isTy_str_n, isTy_str_b, isTy_str_i, isTy_str_s, isTy_str_l, isTy_str_t, isTy_str_d, isTy_list_n, isTy_list_b, isTy_list_i, isTy_list_s, isTy_list_l, isTy_list_t, isTy_list_d, isTy_tuple_n, isTy_tuple_b, isTy_tuple_i, isTy_tuple_s, isTy_tuple_l, isTy_tuple_t, isTy_tuple_d, isTy_dict_n, isTy_dict_b, isTy_dict_i, isTy_dict_s, isTy_dict_l, isTy_dict_t, isTy_dict_d, optP_some, optP_ite, optP_map, rd_dat, rd_loc, rdL_nil, rdL_cons, gAdd_ii, gAdd_ss, gAdd_ll, gAdd_tt, gMul_ii, gMul_li, gII_ii, gII0_ii, gIB_ii, gNeg_i, gEq_fii, gEq_tii, gEq_fbb, gIs_fn, gIs_tn, gIs_fb, gIs_tb, isNone_none, isNone_int, isNone_tuple, isNone_str, gTru_b, gTru_i, gTru_n, gTru_l, gTru_t, gTru_s, atI_0, atI_1, atI_2, atI_3, atI_4, atI_5, gIx_l, gIx_t, gIx_s, gAbs_i, gMin_ii, gInt_i, gInt_b, gInt_s, gStr_i, gLen_s, gLen_l, gLen_t, gTuple_l, gTuple_t, gAny_l, gAll_l, frT_dat, frT_lst, asLoc_loc, asInt_int, asStr_str, seqOf_l, seqOf_t, gN_eq, gN0_eq, gN1_eq, gT_eq, argsT_nil, argsT_cons, argT_dat, argT_loc, putBack_nil, putBack_dat, putBack_loc, distinct_nil, distinct_dat, distinct_loc, hasLoc_nil, hasLoc_dat, hasLoc_loc, lstAt, List.getElem?_cons_zero, List.getElem?_cons_succ, List.set_cons_zero, List.set_cons_succ, List.length_cons, List.length_nil, true_and, and_true])
theorem divF_ne {x y : Fr} (hx : Low x) (h : y.1 ≠ 0) : x.2 * y.1 ≠ 0 := mul_ne hx.ne h
theorem FB.bd1 {k : Nat} {x : Fr} (h : FB k x) (hk : k ≤ 1900) : Bd 1900 x.1 := h.2.1.mono hk
theorem FB.bd2 {k : Nat} {x : Fr} (h : FB k x) (hk : k ≤ 1900) : Bd 1900 x.2 := h.2.2.mono hk
def envL (a : Addr) (ns : List Int) (st : List PyData) (o2 o3 o4 o5 o6 o7 o8 o9 p0 p1 : Option T) : DEnv := [some (.scr a ns), some (.lst st), o2, o3, o4, o5, o6, o7, o8, o9, p0, p1, none, none]
/-- the last loop: a number's text, read back -/
theorem w_last {a : Addr} {ns : List Int} {st : List PyData} {o2 o3 o4 o5 o6 o7 o9 p0 : Option T} : ∀ (xs : List Fr) (o8 p1 : Option T) {Q : Out → DEnv → Prop}, (∀ x ∈ xs, FB 1900 x) → (∀ o8 p1, Q .nx [some (.scr a ns), some (.lst st), o2, o3, o4, o5, o6, o7, o8, o9, p0, p1, none, none]) →
    wp (mForL (gN 11) (mSeq (mAsg 8 (mIf (mAndT (mTV (mOp (gIB fun i j => decide (i ≤ j)) (mD (mCall gAbs (mA1 (mD (mOp gIx (mVar 11) (mD (mC (.int 0))))) mA0))) (mD (mC (.int 1000))))) (mTV (mOp (gIB fun i j => decide (i ≤ j)) (mD (mOp gIx (mVar 11) (mD (mC (.int 1))))) (mD (mC (.int 1000)))))) (mSet (mVar 11)) (mC .none)))
    (mIf (mNotT (mTV (mFr (mCl m_law_same (mA1 (mD (mFr (mLst (mL1 (mFr (mCl m_number_text (mA1 (mVar 11) mA0))) (mL1 (mFr (mCl m_number_of (mA1 (mD (mFr (mCl m_number_text (mA1 (mVar 11) mA0)))) mA0))) mL0))))) (mA1 (mD (mFr (mLst (mL1 (mFr (mCl m_law_word (mA1 (mVar 11) mA0))) (mL1 (mSet (mVar 8)) mL0))))) mA0)))))) (mRet (mO (mC (.bool false)))) mNx)) (xs.map frD)) [some (.scr a ns), some (.lst st), o2, o3, o4, o5, o6, o7, o8, o9, p0, p1, none, none] Q
  | [], o8, p1, Q, _, q => q o8 p1
  | x :: xs, o8, p1, Q, h, q => by
    have hx := h x (by simp)
    have hb1 := FB.bd1 hx (by decide)
    have hb2 := FB.bd2 hx (by decide)
    have hq := hx.1.1
    rw [List.map_cons, wp_ForCons, gN_eq, optP_some]
    show wp _ [some (.scr a ns), some (.lst st), o2, o3, o4, o5, o6, o7, o8, o9, p0, some (.dat (frD x)), none, none] _
    refine wp_seq [some (.scr a ns), some (.lst st), o2, o3, o4, o5, o6, o7, some (.dat (numF x)), o9, p0, some (.dat (frD x)), none, none] ?_ ?_
    · rw [wp_Asg]
      refine wp_ifB (decide (x.1.natAbs ≤ 1000) && decide (x.2 ≤ 1000)) ?_ (fun hh => ?_) (fun hh => ?_)
      · refine wp_andT (decide (x.1.natAbs ≤ 1000)) (decide (x.2 ≤ 1000)) ?_ (fun _ => ?_) ⟨rfl, rfl⟩
        · unfold frD
          walk_at "sy"
          rw [abs_nat]
          exact decide_eq_decide.mpr (by omega)
        · unfold frD
          walk_at "sy"
      · rw [Bool.and_eq_true, decide_eq_true_eq, decide_eq_true_eq] at hh
        unfold numF
        rw [if_pos ⟨hh.1, by omega⟩]
        walk_at "sy"
      · unfold numF
        rw [if_neg (fun z => by
          rw [decide_eq_true z.1, decide_eq_true (show x.2 ≤ 1000 by omega)] at hh
          cases hh)]
        walk_at "sy"
    · refine wp_ifF ?_ ?_
      · walk_at "sy"
        rw [wp_eq (e_number_text x hb1 hb2)]
        walk_at "sy"
        rw [wp_eq (e_number_text x hb1 hb2)]
        walk_at "sy"
        rw [wp_eq (e_number_of x hx.1 hb1 hb2)]
        walk_at "sy"
        refine ⟨rfl, ?_⟩
        rw [wp_eq (e_law_word x hb1 hb2)]
        walk_at "sy"
        refine ⟨rfl, wp_same ?_ ?_⟩
        · refine SmOk.list (by simp) fun d hd => ?_
          simp only [List.mem_cons, List.not_mem_nil, or_false] at hd
          rcases hd with hd | hd <;> subst hd
          · exact sm_str (strOk_S okS_tL)
          · exact sm_num
        · walk_at "sy"
          rfl
      · rw [wp_Nx]
        exact w_last xs _ _ (fun z hz => h z (by simp [hz])) q
end K00
-- K00J
namespace K00
open PySem L2 Sem Num PyProof.Rows SX Txs
local macro_rules | `(tactic| walk_at "sy") => `(tactic| try simp only [↓c_Lc, c_Lc, ↓wv23s, ↓wv23l, ↓wv23d, ↓wv22s, ↓wv22l, ↓wv22d, ↓wv21s, ↓wv21l, ↓wv21d, ↓wv20s, ↓wv20l, ↓wv20d, ↓wv19s, ↓wv19l, ↓wv19d, ↓wv18s, ↓wv18l, ↓wv18d, ↓wv17s, ↓wv17l, ↓wv17d, ↓wv16s, ↓wv16l, ↓wv16d, ↓wv15s, ↓wv15l, ↓wv15d, ↓wv14s, ↓wv14l, ↓wv14d, ↓wv13s, ↓wv13l, ↓wv13d, ↓wv12s, ↓wv12l, ↓wv12d, ↓wv11s, ↓wv11l, ↓wv11d, ↓wv10s, ↓wv10l, ↓wv10d, ↓wv9s, ↓wv9l, ↓wv9d, ↓wv8s, ↓wv8l, ↓wv8d, ↓wv7s, ↓wv7l, ↓wv7d, ↓wv6s, ↓wv6l, ↓wv6d, ↓wv5s, ↓wv5l, ↓wv5d, ↓wv4s, ↓wv4l, ↓wv4d, ↓wv3s, ↓wv3l, ↓wv3d, ↓wv2s, ↓wv2l, ↓wv2d, ↓wv1s, ↓wv1l, ↓wv1d, ↓wv0s, ↓wv0l, ↓wv0d, ↓c_C, ↓c_D, ↓c_Set, ↓c_Fr, ↓c_O, ↓c_Op, ↓c_TV, ↓c_Chain, ↓c_Un, ↓c_AndT, ↓c_OrT, ↓c_NotT, ↓c_AndV, ↓c_OrV, ↓c_NotV, ↓c_If, ↓c_A0, ↓c_A1, ↓c_L0, ↓c_L1, ↓c_Tup, ↓c_Lst, ↓c_Call, ↓c_Nx, ↓c_Bk, ↓c_Ct, ↓c_No, ↓c_Seq, ↓c_Asg, ↓c_AsgO, ↓c_AsgG, ↓c_Par, ↓c_Par3, ↓c_SetIx, ↓c_Mt, ↓c_Drop, ↓c_Ret, ↓c_RetN, ↓c_RetV, ↓c_Tru, ↓c_Isi, ↓c_Part, ↓c_NoPart, ↓c_Sl, ↓c_MS, ↓c_Dict0, ↓c_SeqI, ↓c_StrI, ↓c_Rng1, ↓c_For, ↓c_Yes, ↓c_Cl, ↓c_ScrLen, ↓c_ScrIx, c_C, c_D, c_Set, c_Fr, c_O, c_Op, c_TV, c_Chain, c_Un, c_AndT, c_OrT, c_NotT, c_AndV, c_OrV, c_NotV, c_If, c_A0, c_A1, c_L0, c_L1, c_Tup, c_Lst, c_Call, c_Nx, c_Bk, c_Ct, c_No, c_Seq, c_Asg, c_AsgO, c_AsgG, c_Par, c_Par3, c_SetIx, c_Mt, c_Drop, c_Ret, c_RetN, c_RetV, c_Tru, c_Isi, c_Part, c_NoPart, c_Sl, c_MS, c_Dict0, c_SeqI, c_StrI, c_Rng1, c_For, c_Yes, c_Cl, c_ScrLen, c_ScrIx, wv0d, wv0l, wv0s, wv1d, wv1l, wv1s, wv2d, wv2l, wv2s, wv3d, wv3l, wv3s, wv4d, wv4l, wv4s, wv5d, wv5l, wv5s, wv6d, wv6l, wv6s, wv7d, wv7l, wv7s, wv8d, wv8l, wv8s, wv9d, wv9l, wv9s, wv10d, wv10l, wv10s, wv11d, wv11l, wv11s, wv12d, wv12l, wv12s, wv13d, wv13l, wv13s, wv14d, wv14l, wv14s, wv15d, wv15l, wv15s, wv16d, wv16l, wv16s, wv17d, wv17l, wv17s, wv18d, wv18l, wv18s, wv19d, wv19l, wv19s, wv20d, wv20l, wv20s, wv21d, wv21l, wv21s, wv22d, wv22l, wv22s, wv23d, wv23l, wv23s, isTy_bool_n, isTy_bool_b, isTy_bool_i, isTy_bool_s, isTy_bool_l, isTy_bool_t, isTy_bool_d, isTy_int_n, isTy_int_b, isTy_int_i, isTy_int_s, isTy_int_l, isTy_int_t, isTy_int_d, isTy_str_n, isTy_str_b, isTy_str_i, isTy_str_s, isTy_str_l, isTy_str_t, isTy_str_d, isTy_list_n, isTy_list_b, isTy_list_i, isTy_list_s, isTy_list_l, isTy_list_t, isTy_list_d, isTy_tuple_n, isTy_tuple_b, isTy_tuple_i, isTy_tuple_s, isTy_tuple_l, isTy_tuple_t, isTy_tuple_d, isTy_dict_n, isTy_dict_b, isTy_dict_i, isTy_dict_s, isTy_dict_l, isTy_dict_t, isTy_dict_d, optP_some, optP_ite, optP_map, rd_dat, rd_loc, rdL_nil, rdL_cons, gAdd_ii, gAdd_ss, gAdd_ll, gAdd_tt, gMul_ii, gMul_li, gII_ii, gII0_ii, gIB_ii, gNeg_i, gEq_fii, gEq_tii, gEq_fbb, gIs_fn, gIs_tn, gIs_fb, gIs_tb, isNone_none, isNone_int, isNone_tuple, isNone_str, gTru_b, gTru_i, gTru_n, gTru_l, gTru_t, gTru_s, atI_0, atI_1, atI_2, atI_3, atI_4, atI_5, gIx_l, gIx_t, gIx_s, gAbs_i, gMin_ii, gInt_i, gInt_b, gInt_s, gStr_i, gLen_s, gLen_l, gLen_t, gTuple_l, gTuple_t, gAny_l, gAll_l, frT_dat, frT_lst, asLoc_loc, asInt_int, asStr_str, seqOf_l, seqOf_t, gN_eq, gN0_eq, gN1_eq, gT_eq, argsT_nil, argsT_cons, argT_dat, argT_loc, putBack_nil, putBack_dat, putBack_loc, distinct_nil, distinct_dat, distinct_loc, hasLoc_nil, hasLoc_dat, hasLoc_loc, lstAt, List.getElem?_cons_zero, List.getElem?_cons_succ, List.set_cons_zero, List.set_cons_succ, List.length_cons, List.length_nil, true_and, and_true])
theorem bd20 {s : Int} (h1 : 1 ≤ s) (h2 : s ≤ 1000000) : Bd 20 s := bd_of (by omega) (by simp; omega)
theorem gcd_scale (a b s : Int) (h : 1 ≤ s) : ((Int.gcd (a * s) (b * s) : Nat) : Int) = s * (Int.gcd a b : Nat) := by
  rw [Int.gcd_mul_right, Int.natCast_mul, Int.mul_comm]
  congr 1
  omega
theorem gIx_fr0 {x : Fr} : gIx (frD x) (.int 0) = some (.int x.1) := rfl
theorem gIx_fr1 {x : Fr} : gIx (frD x) (.int 1) = some (.int x.2) := rfl
theorem isF_fr {x : Fr} (h : Low x) : isF (frD x) = true := by
  show (decide (0 < x.2) && decide (Int.gcd x.1 x.2 = 1)) = true
  rw [decide_eq_true h.1, decide_eq_true h.2]
  rfl
theorem shaped_nil : SeqAt.shaped (.list []) = true := by
  unfold SeqAt.shaped
  simp [PyData.canLay0, PyData.canLayAll0, PyData.depth, PyData.depthAll]
theorem gEq_nil : gEq true (.list []) (.list []) = some (.bool false) := by
  rw [gEq_t, shaped_nil]
  simp [PyData.eqv, PyData.eqvAll]
theorem rngD_len {n : Nat} : (rngD 0 n).length = n := by
  unfold rngD
  simp
theorem e_law {a : Addr} {ns : List Int} (hl : ns.length ≤ 100000) (hb : ∀ z ∈ ns, Builtin.Int.intBits z ≤ 1048576) {Q : T → DEnv → Prop} (q : ∀ ρ, Q (.dat (.bool true)) ρ) : wp m_law [some (.scr a ns)] Q := by
  refine wp_fnE rfl ?_
  show wp b_law [some (.scr a ns), none, none, none, none, none, none, none, none, none, none, none, none, none] _
  unfold b_law
  refine wp_seqE (fun ρ => ∃ st, St 0 st ∧ ρ = [some (.scr a ns), some (.lst st), none, none, none, none, none, none, none, none, none, none, none, none]) ?_ ?_
  · walk_at "sy"
    refine ⟨rfl, wp_start hl hb fun ds hS => ?_⟩
    walk_at "sy"
    exact ⟨ds, hS, rfl⟩
  intro ρ1 ⟨st, hS, e⟩
  subst e
  refine wp_seqE (fun _ => True) ?_ ?_
  rotate_left
  · intro ρ1 _
    rw [wp_Ret, wp_O, wp_C]
    exact ⟨_, rfl, q _⟩
  walk_at "sy"
  refine ⟨by decide, ?_⟩
  refine wp_for (fun ds ρ => ∃ N st o2 o3 o4 o5 o6 o7 o8 o9 p0 p1, St N st ∧ N + 200 * ds.length ≤ 1000 ∧ ρ = [some (.scr a ns), some (.lst st), o2, o3, o4, o5, o6, o7, o8, o9, p0, p1, none, none])
    (fun d ds ρ h => ?_) (fun ρ _ => rfl) _ _ ⟨0, st, none, none, none, none, none, none, none, none, none, none, hS, by decide, rfl⟩
  clear hS
  obtain ⟨N, st, o2, o3, o4, o5, o6, o7, o8, o9, p0, p1, hS, hN, e⟩ := h
  rw [List.length_cons] at hN
  subst e
  rw [gN_eq, optP_some]
  show wp _ [some (.scr a ns), some (.lst st), some (.dat d), o3, o4, o5, o6, o7, o8, o9, p0, p1, none, none] _
  -- a, b, shared
  refine wp_seqE (fun ρ => ∃ (a1 b1 s1 : Int) (st' : List PyData), Bd 200 a1 ∧ Bd 200 b1 ∧ 1 ≤ s1 ∧ s1 ≤ 1000000 ∧ St (N + 11) st' ∧ ρ = [some (.scr a ns), some (.lst st'), some (.dat d), some (.dat (.int a1)), some (.dat (.int b1)), some (.dat (.int s1)), o6, o7, o8, o9, p0, p1, none, none]) ?_ ?_
  · walk_at "sy"
    refine ⟨rfl, wp_great hS (by omega) fun x st1 hx hS1 => ?_⟩
    walk_at "sy"
    refine ⟨rfl, wp_great hS1 (by omega) fun y st2 hy hS2 => ?_⟩
    walk_at "sy"
    refine ⟨by decide, rfl, wp_take hS2 (by decide) (by decide) (by omega) fun z st3 h1 h2 hS3 => ?_⟩
    walk_at "sy"
    refine ⟨x, y, _, st3, hx, hy, ?_, ?_, hS3.mono (by omega), rfl⟩
    · omega
    · simp at h2
      omega
  intro ρ1 ⟨a1, b1, s1, st, ha, hb1, hs1, hs2, hS, e⟩
  subst e
  have hsb := bd20 hs1 hs2
  have hs0 : s1 ≠ 0 := by omega
  -- gcd
  refine wp_seq _ (wp_ifF ?_ ⟨rfl, rfl⟩) ?_
  · walk_at "sy"
    refine ⟨mulOk_of ha hsb (by decide), mulOk_of hb1 hsb (by decide), ?_⟩
    rw [wp_eq (e_gcd _ _)]
    walk_at "sy"
    rw [wp_eq (e_law_gcd _ _)]
    walk_at "sy"
    have hgb : Bd 201 ((Int.gcd a1 b1 : Nat) : Int) := by
      by_cases hb0 : b1 = 0
      · subst hb0
        rw [Int.gcd_zero_right]
        exact bd_of (by omega) (by have := ha.mono (show 200 ≤ 201 by decide); unfold Bd at this; omega)
      · exact (hb1.le (by have := gcd_le (p := a1) hb0; omega)).mono (by decide)
    refine ⟨mulOk_of hsb hgb (by decide), wp_same2 (by rw [gcd_scale _ _ _ hs1]) SmOk.int ?_⟩
    walk_at "sy"
    rfl
  -- ratio
  refine wp_seq [some (.scr a ns), some (.lst st), some (.dat d), some (.dat (.int a1)), some (.dat (.int b1)), some (.dat (.int s1)), o6, o7, o8, o9, p0, p1, none, none] (wp_ifF ?_ ⟨rfl, rfl⟩) ?_
  · refine wp_andT (!(b1 == 0)) false ?_ (fun hb0 => ?_) ⟨by simp, rfl⟩
    · walk_at "sy"
    have hb0' : b1 ≠ 0 := by simpa using hb0
    walk_at "sy"
    refine ⟨mulOk_of ha hsb (by decide), mulOk_of hb1 hsb (by decide), ?_⟩
    rw [wp_eq (e_ratio _ _ (mul_ne hb0' hs0) (hb1.mul hsb) (by decide))]
    walk_at "sy"
    rw [wp_eq (e_ratio _ _ (show -b1 ≠ 0 by omega) hb1.neg (by decide))]
    walk_at "sy"
    refine ⟨rfl, ?_⟩
    rw [wp_eq (e_law_ratio _ _ hb0' hb1 (by decide))]
    walk_at "sy"
    rw [wp_eq (e_law_ratio _ _ hb0' hb1 (by decide))]
    walk_at "sy"
    refine ⟨rfl, wp_same2 (by rw [rat_scale hb0' hs0, rat_neg hb0']) (SmOk.list (by simp) fun d hd => ?_) ?_⟩
    · simp only [List.mem_cons, List.not_mem_nil, or_false] at hd
      rcases hd with hd | hd <;> subst hd <;> exact sm_fr
    · walk_at "sy"
      rfl
  -- one, other
  refine wp_seqE (fun ρ => ∃ (x y : Fr) (st' : List PyData), FB 200 x ∧ FB 200 y ∧ St (N + 31) st' ∧ ρ = [some (.scr a ns), some (.lst st'), some (.dat d), some (.dat (.int a1)), some (.dat (.int b1)), some (.dat (.int s1)), some (.dat (frD x)), some (.dat (frD y)), o8, o9, p0, p1, none, none]) ?_ ?_
  · walk_at "sy"
    refine ⟨rfl, wp_fraction hS (by omega) fun x st1 hx hS1 => ?_⟩
    walk_at "sy"
    refine ⟨rfl, wp_fraction hS1 (by omega) fun y st2 hy hS2 => ?_⟩
    walk_at "sy"
    exact ⟨x, y, st2, hx, hy, hS2.mono (by omega), rfl⟩
  clear hS st
  intro ρ1 ⟨x, y0, st, hx, hy0, hS, e⟩
  subst e
  refine wp_seqE (fun ρ => ∃ (y : Fr) (st' : List PyData), FB 200 y ∧ St (N + 33) st' ∧ ρ = [some (.scr a ns), some (.lst st'), some (.dat d), some (.dat (.int a1)), some (.dat (.int b1)), some (.dat (.int s1)), some (.dat (frD x)), some (.dat (frD y)), o8, o9, p0, p1, none, none]) ?_ ?_
  · rw [wp_If]
    walk_at "sy"
    refine ⟨rfl, wp_take hS (by decide) (by decide) (by omega) fun z st1 h1 h2 hS1 => ?_⟩
    walk_at "sy"
    by_cases hz : z = 0
    · rw [show (z == 0) = true from beq_iff_eq.mpr hz]
      walk_at "sy"
      refine ⟨rfl, wp_take hS1 (by decide) (by decide) (by omega) fun z2 st2 h3 h4 hS2 => ?_⟩
      walk_at "sy"
      by_cases hz2 : z2 = 0
      · rw [show (z2 == 0) = true from beq_iff_eq.mpr hz2]
        walk_at "sy"
        exact ⟨x, st2, hx, hS2.mono (by omega), rfl⟩
      · rw [show (z2 == 0) = false from beq_eq_false_iff_ne.mpr hz2]
        walk_at "sy"
        rw [wp_eq e_law_neg]
        walk_at "sy"
        exact ⟨negF x, st2, hx.neg, hS2.mono (by omega), rfl⟩
    · rw [show (z == 0) = false from beq_eq_false_iff_ne.mpr hz]
      walk_at "sy"
      exact ⟨y0, st1, hy0, hS1.mono (by omega), rfl⟩
  clear hS st hy0 y0
  intro ρ1 ⟨y, st, hy, hS, e⟩
  subst e
  -- due
  refine wp_seq [some (.scr a ns), some (.lst st), some (.dat d), some (.dat (.int a1)), some (.dat (.int b1)), some (.dat (.int s1)), some (.dat (frD x)), some (.dat (frD y)), some (.dat (.list [frD (addF x y), frD (subF x y), frD (mulF x y), frD (negF x), frD ((x.1.natAbs : Int), x.2), .bool (lessF x y), .bool (lessF y x)])), o9, p0, p1, none, none] ?_ ?_
  · walk_at "sy"
    rw [wp_eq (e_law_add hx hy (by decide))]
    walk_at "sy"
    rw [wp_eq (e_law_sub hx hy (by decide))]
    walk_at "sy"
    rw [wp_eq (e_law_mul hx hy (by decide))]
    walk_at "sy"
    rw [wp_eq e_law_neg]
    walk_at "sy"
    rw [gIx_fr0]
    walk_at "sy"
    rw [gIx_fr1, abs_nat]
    walk_at "sy"
    refine ⟨rfl, ?_⟩
    rw [wp_eq (e_law_less hx hy (by decide))]
    walk_at "sy"
    rw [wp_eq (e_law_less hy hx (by decide))]
    walk_at "sy"
    exact ⟨rfl, rfl⟩
  refine wp_seq _ (wp_ifF ?_ ⟨rfl, rfl⟩) ?_
  · walk_at "sy"
    rw [wp_eq (e_add hx hy (by decide))]
    walk_at "sy"
    rw [wp_eq (e_sub hx hy (by decide))]
    walk_at "sy"
    rw [wp_eq (e_mul hx hy (by decide))]
    walk_at "sy"
    rw [wp_eq e_neg]
    walk_at "sy"
    rw [wp_eq e_size]
    walk_at "sy"
    rw [wp_eq (e_less hx hy (by decide))]
    walk_at "sy"
    rw [wp_eq (e_less hy hx (by decide))]
    walk_at "sy"
    refine ⟨rfl, wp_same (SmOk.list (by simp) fun d hd => ?_) ?_⟩
    · simp only [List.mem_cons, List.not_mem_nil, or_false] at hd
      rcases hd with hd | hd | hd | hd | hd | hd | hd <;> subst hd <;> first | exact sm_fr | exact sm_bool
    · walk_at "sy"
      rfl
  -- div
  refine wp_seq _ (wp_ifF ?_ ⟨rfl, rfl⟩) ?_
  · refine wp_andT (!(y.1 == 0)) false ?_ (fun hy0 => ?_) ⟨by simp, rfl⟩
    · walk_at "sy"
      rw [gIx_fr0]
      walk_at "sy"
    have hy0' : y.1 ≠ 0 := by simpa using hy0
    walk_at "sy"
    rw [wp_eq (e_div hx hy hy0' (by decide))]
    walk_at "sy"
    rw [wp_eq (e_div hx hy hy0' (by decide))]
    walk_at "sy"
    rw [wp_eq (e_mul (hx.div hy hy0') hy (by decide))]
    walk_at "sy"
    refine ⟨rfl, ?_⟩
    rw [wp_eq (e_law_div hx hy hy0' (by decide))]
    walk_at "sy"
    refine ⟨rfl, wp_same2 (by rw [mul_div_back hx.1 hy.1 hy0']) (SmOk.list (by simp) fun d hd => ?_) ?_⟩
    · simp only [List.mem_cons, List.not_mem_nil, or_false] at hd
      rcases hd with hd | hd <;> subst hd <;> exact sm_fr
    · walk_at "sy"
      rfl
  -- numbers
  refine wp_seqE (fun ρ => ∃ (xs : List Fr) (st' : List PyData), (∀ x ∈ xs, FB 200 x) ∧ xs.length ≤ 7 ∧ St (N + 104) st' ∧ ρ = [some (.scr a ns), some (.lst st'), some (.dat d), some (.dat (.int a1)), some (.dat (.int b1)), some (.dat (.int s1)), some (.dat (frD x)), some (.dat (frD y)), some (.dat (.list [frD (addF x y), frD (subF x y), frD (mulF x y), frD (negF x), frD ((x.1.natAbs : Int), x.2), .bool (lessF x y), .bool (lessF y x)])), some (.dat (.list (xs.map frD))), p0, p1, none, none]) ?_ ?_
  · walk_at "sy"
    refine ⟨rfl, wp_take hS (by decide) (by decide) (by omega) fun z st1 h1 h2 hS1 => ?_⟩
    walk_at "sy"
    have hzl : (rngD 0 z.toNat).length ≤ 7 := by rw [rngD_len]; omega
    refine ⟨by unfold inRange; rw [Bool.and_eq_true]; exact ⟨decide_eq_true (by omega), decide_eq_true (by omega)⟩, small_of (by omega), ?_⟩
    refine w_nums _ (N + 33 + 1) st1 hS1 (by omega) fun xs st2 h3 h4 h5 => ?_
    walk_at "sy"
    exact ⟨xs, st2, h3, by omega, h5.mono (by omega), rfl⟩
  clear hS st
  intro ρ1 ⟨xs, st, hxs, hxl, hS, e⟩
  subst e
  -- totals
  refine wp_seq _ (wp_ifF ?_ ⟨rfl, rfl⟩) ?_
  · walk_at "sy"
    rw [wp_eq (e_total xs hxs (by omega) rfl)]
    walk_at "sy"
    rw [wp_eq e_law_neg]
    walk_at "sy"
    refine ⟨rfl, small_of (by simp; omega), ?_⟩
    rw [wp_eq (e_total (d := .tuple (xs.map frD ++ [frD x, frD (negF x)])) (xs ++ [x, negF x]) (fun z hz => by
      rcases List.mem_append.mp hz with hz | hz
      · exact hxs z hz
      · simp only [List.mem_cons, List.not_mem_nil, or_false] at hz
        rcases hz with hz | hz <;> subst hz
        · exact hx
        · exact hx.neg) (by simp; omega) (by simp [seqOf]))]
    walk_at "sy"
    refine ⟨rfl, ?_⟩
    rw [wp_eq (e_law_total xs hxs (by omega) rfl)]
    walk_at "sy"
    refine ⟨rfl, rfl, wp_same2 (by rw [totF_back hx.1 hxs]; rfl) (SmOk.list (by simp) fun d hd => ?_) ?_⟩
    · simp only [List.mem_cons, List.not_mem_nil, or_false] at hd
      rcases hd with hd | hd <;> subst hd <;> exact sm_fr
    · walk_at "sy"
      rfl
  -- is_fraction
  refine wp_seq _ (wp_ifF ?_ ⟨rfl, rfl⟩) ?_
  · refine wp_orT false false ?_ (fun _ => ?_) ⟨rfl, rfl⟩
    · walk_at "sy"
      rw [wp_eq (e_is_fraction _), isF_fr hx.1]
      walk_at "sy"
      rfl
    · walk_at "sy"
      refine ⟨rfl, ?_⟩
      rw [wp_eq (e_is_fraction _)]
      walk_at "sy"
      rfl
  -- values
  refine wp_seq _ (wp_ifF ?_ ⟨rfl, rfl⟩) ?_
  · walk_at "sy"
    rw [wp_eq (e_law_values x (FB.bd1 hx (by decide)) (FB.bd2 hx (by decide)))]
    walk_at "sy"
    refine ⟨rfl, w_vals _ (vals_not hx.1) ?_⟩
    walk_at "sy"
    refine ⟨rfl, ?_⟩
    rw [gEq_nil]
    walk_at "sy"
  -- small
  refine wp_seqE (fun ρ => ∃ (z : Fr), FB 20 z ∧ ρ = [some (.scr a ns), some (.lst st), some (.dat d), some (.dat (.int a1)), some (.dat (.int b1)), some (.dat (.int s1)), some (.dat (frD x)), some (.dat (frD y)), some (.dat (.list [frD (addF x y), frD (subF x y), frD (mulF x y), frD (negF x), frD ((x.1.natAbs : Int), x.2), .bool (lessF x y), .bool (lessF y x)])), some (.dat (.list (xs.map frD))), some (.dat (frD z)), p1, none, none]) ?_ ?_
  · have c1 := fmod_lo (a := a1) (b := 2401) (by decide)
    have c2 := fmod_hi (a := a1) (b := 2401) (by decide)
    have c3 := fmod_lo (a := b1) (b := 1200) (by decide)
    have c4 := fmod_hi (a := b1) (b := 1200) (by decide)
    have hq0 : (1 : Int) + b1.fmod 1200 ≠ 0 := by omega
    have hq1 : Bd 20 ((1 : Int) + b1.fmod 1200) := bd_of (by omega) (by simp; omega)
    have hp1 : Bd 20 (a1.fmod 2401 - 1200) := bd_of (by simp; omega) (by simp; omega)
    walk_at "sy"
    refine ⟨by decide, by decide, ?_⟩
    rw [wp_eq (e_law_ratio _ _ hq0 hq1 (by decide))]
    walk_at "sy"
    exact ⟨_, FB.rat hp1 hq1 hq0, rfl⟩
  intro ρ1 ⟨z, hz, e⟩
  subst e
  walk_at "sy"
  refine ⟨rfl, ?_⟩
  refine w_last [x, z] _ _ (fun w hw => ?_) (fun o8 p1 => ?_)
  · simp only [List.mem_cons, List.not_mem_nil, or_false] at hw
    rcases hw with hw | hw <;> subst hw
    · exact hx.mono (by decide)
    · exact hz.mono (by decide)
  · exact ⟨N + 104, st, _, _, _, _, _, _, _, _, _, _, hS, by omega, rfl⟩
end K00
-- K00End
namespace K00
open PySem L2 Sem Num PyProof.Rows
theorem all_mk {l : PySem.W.OpenLaw} {w : World} {K : PySem.W.Frag} {h : Heap} {mg : Str → Option Value} {fa : Addr} (X : K.In h) (G : h.Ns mainGlobals mg) (hfa : mg "law" = some (.ref fa))
    {f_gcd : Addr} {od_gcd an_gcd : Option Addr} {sl_gcd : Array (Option Value)} {oc_gcd kV_gcd dc_gcd pm_gcd cd_gcd ct_gcd : Value}
    {f_ratio : Addr} {od_ratio an_ratio : Option Addr} {sl_ratio : Array (Option Value)} {oc_ratio kV_ratio dc_ratio pm_ratio cd_ratio ct_ratio : Value}
    {f_add : Addr} {od_add an_add : Option Addr} {sl_add : Array (Option Value)} {oc_add kV_add dc_add pm_add cd_add ct_add : Value}
    {f_sub : Addr} {od_sub an_sub : Option Addr} {sl_sub : Array (Option Value)} {oc_sub kV_sub dc_sub pm_sub cd_sub ct_sub : Value}
    {f_mul : Addr} {od_mul an_mul : Option Addr} {sl_mul : Array (Option Value)} {oc_mul kV_mul dc_mul pm_mul cd_mul ct_mul : Value}
    {f_div : Addr} {od_div an_div : Option Addr} {sl_div : Array (Option Value)} {oc_div kV_div dc_div pm_div cd_div ct_div : Value}
    {f_neg : Addr} {od_neg an_neg : Option Addr} {sl_neg : Array (Option Value)} {oc_neg kV_neg dc_neg pm_neg cd_neg ct_neg : Value}
    {f_size : Addr} {od_size an_size : Option Addr} {sl_size : Array (Option Value)} {oc_size kV_size dc_size pm_size cd_size ct_size : Value}
    {f_below : Addr} {od_below an_below : Option Addr} {sl_below : Array (Option Value)} {oc_below kV_below dc_below pm_below cd_below ct_below : Value}
    {f_total : Addr} {od_total an_total : Option Addr} {sl_total : Array (Option Value)} {oc_total kV_total dc_total pm_total cd_total ct_total : Value}
    {f_is_fraction : Addr} {od_is_fraction an_is_fraction : Option Addr} {sl_is_fraction : Array (Option Value)} {oc_is_fraction kV_is_fraction dc_is_fraction pm_is_fraction cd_is_fraction ct_is_fraction : Value}
    {f_whole_of : Addr} {od_whole_of an_whole_of : Option Addr} {sl_whole_of : Array (Option Value)} {oc_whole_of kV_whole_of dc_whole_of pm_whole_of cd_whole_of ct_whole_of : Value}
    {f_number_of : Addr} {od_number_of an_number_of : Option Addr} {sl_number_of : Array (Option Value)} {oc_number_of kV_number_of dc_number_of pm_number_of cd_number_of ct_number_of : Value}
    {f_number_text : Addr} {od_number_text an_number_text : Option Addr} {sl_number_text : Array (Option Value)} {oc_number_text kV_number_text dc_number_text pm_number_text cd_number_text ct_number_text : Value}
    {f_law_start : Addr} {od_law_start an_law_start : Option Addr} {sl_law_start : Array (Option Value)} {oc_law_start kV_law_start dc_law_start pm_law_start cd_law_start ct_law_start : Value}
    {f_law_take : Addr} {od_law_take an_law_take : Option Addr} {sl_law_take : Array (Option Value)} {oc_law_take kV_law_take dc_law_take pm_law_take cd_law_take ct_law_take : Value}
    {f_law_same : Addr} {od_law_same an_law_same : Option Addr} {sl_law_same : Array (Option Value)} {oc_law_same kV_law_same dc_law_same pm_law_same cd_law_same ct_law_same : Value}
    {f_law_gcd : Addr} {od_law_gcd an_law_gcd : Option Addr} {sl_law_gcd : Array (Option Value)} {oc_law_gcd kV_law_gcd dc_law_gcd pm_law_gcd cd_law_gcd ct_law_gcd : Value}
    {f_law_ratio : Addr} {od_law_ratio an_law_ratio : Option Addr} {sl_law_ratio : Array (Option Value)} {oc_law_ratio kV_law_ratio dc_law_ratio pm_law_ratio cd_law_ratio ct_law_ratio : Value}
    {f_law_add : Addr} {od_law_add an_law_add : Option Addr} {sl_law_add : Array (Option Value)} {oc_law_add kV_law_add dc_law_add pm_law_add cd_law_add ct_law_add : Value}
    {f_law_neg : Addr} {od_law_neg an_law_neg : Option Addr} {sl_law_neg : Array (Option Value)} {oc_law_neg kV_law_neg dc_law_neg pm_law_neg cd_law_neg ct_law_neg : Value}
    {f_law_sub : Addr} {od_law_sub an_law_sub : Option Addr} {sl_law_sub : Array (Option Value)} {oc_law_sub kV_law_sub dc_law_sub pm_law_sub cd_law_sub ct_law_sub : Value}
    {f_law_mul : Addr} {od_law_mul an_law_mul : Option Addr} {sl_law_mul : Array (Option Value)} {oc_law_mul kV_law_mul dc_law_mul pm_law_mul cd_law_mul ct_law_mul : Value}
    {f_law_div : Addr} {od_law_div an_law_div : Option Addr} {sl_law_div : Array (Option Value)} {oc_law_div kV_law_div dc_law_div pm_law_div cd_law_div ct_law_div : Value}
    {f_law_less : Addr} {od_law_less an_law_less : Option Addr} {sl_law_less : Array (Option Value)} {oc_law_less kV_law_less dc_law_less pm_law_less cd_law_less ct_law_less : Value}
    {f_law_total : Addr} {od_law_total an_law_total : Option Addr} {sl_law_total : Array (Option Value)} {oc_law_total kV_law_total dc_law_total pm_law_total cd_law_total ct_law_total : Value}
    {f_law_word : Addr} {od_law_word an_law_word : Option Addr} {sl_law_word : Array (Option Value)} {oc_law_word kV_law_word dc_law_word pm_law_word cd_law_word ct_law_word : Value}
    {f_law_great : Addr} {od_law_great an_law_great : Option Addr} {sl_law_great : Array (Option Value)} {oc_law_great kV_law_great dc_law_great pm_law_great cd_law_great ct_law_great : Value}
    {f_law_fraction : Addr} {od_law_fraction an_law_fraction : Option Addr} {sl_law_fraction : Array (Option Value)} {oc_law_fraction kV_law_fraction dc_law_fraction pm_law_fraction cd_law_fraction ct_law_fraction : Value}
    {f_law_values : Addr} {od_law_values an_law_values : Option Addr} {sl_law_values : Array (Option Value)} {oc_law_values kV_law_values dc_law_values pm_law_values cd_law_values ct_law_values : Value}
    {f_law : Addr} {od_law an_law : Option Addr} {sl_law : Array (Option Value)} {oc_law kV_law dc_law pm_law cd_law ct_law : Value}
    {q_ZERO : Addr} {qd_ZERO : Option Addr} {qs_ZERO : Array (Option Value)} {qn_ZERO : Nat} {t_ZERO0 : Tok} {t_ZERO1 : Tok}
    {t_DIGITS : Tok}
    {t_MOST_NUMBER : Tok}
    (a_gcd : PySem.W.nsIn K mainGlobals "gcd" = some (some (.ref f_gcd))) (l_gcd : K.lookup f_gcd = some ⟨oc_gcd, od_gcd, .func (PySem.W.fnOf "gcd" "gcd" (defArgs s_gcd) (defBody s_gcd) (defScope s_gcd) .none kV_gcd dc_gcd pm_gcd an_gcd cd_gcd ct_gcd), sl_gcd⟩) (c_gcd : PySem.W.codeIn K cd_gcd "gcd" = true) (k_gcd : PySem.W.keepIn K (.ref f_gcd) = true)
    (a_ratio : PySem.W.nsIn K mainGlobals "ratio" = some (some (.ref f_ratio))) (l_ratio : K.lookup f_ratio = some ⟨oc_ratio, od_ratio, .func (PySem.W.fnOf "ratio" "ratio" (defArgs s_ratio) (defBody s_ratio) (defScope s_ratio) .none kV_ratio dc_ratio pm_ratio an_ratio cd_ratio ct_ratio), sl_ratio⟩) (c_ratio : PySem.W.codeIn K cd_ratio "ratio" = true) (k_ratio : PySem.W.keepIn K (.ref f_ratio) = true)
    (a_add : PySem.W.nsIn K mainGlobals "add" = some (some (.ref f_add))) (l_add : K.lookup f_add = some ⟨oc_add, od_add, .func (PySem.W.fnOf "add" "add" (defArgs s_add) (defBody s_add) (defScope s_add) .none kV_add dc_add pm_add an_add cd_add ct_add), sl_add⟩) (c_add : PySem.W.codeIn K cd_add "add" = true) (k_add : PySem.W.keepIn K (.ref f_add) = true)
    (a_sub : PySem.W.nsIn K mainGlobals "sub" = some (some (.ref f_sub))) (l_sub : K.lookup f_sub = some ⟨oc_sub, od_sub, .func (PySem.W.fnOf "sub" "sub" (defArgs s_sub) (defBody s_sub) (defScope s_sub) .none kV_sub dc_sub pm_sub an_sub cd_sub ct_sub), sl_sub⟩) (c_sub : PySem.W.codeIn K cd_sub "sub" = true) (k_sub : PySem.W.keepIn K (.ref f_sub) = true)
    (a_mul : PySem.W.nsIn K mainGlobals "mul" = some (some (.ref f_mul))) (l_mul : K.lookup f_mul = some ⟨oc_mul, od_mul, .func (PySem.W.fnOf "mul" "mul" (defArgs s_mul) (defBody s_mul) (defScope s_mul) .none kV_mul dc_mul pm_mul an_mul cd_mul ct_mul), sl_mul⟩) (c_mul : PySem.W.codeIn K cd_mul "mul" = true) (k_mul : PySem.W.keepIn K (.ref f_mul) = true)
    (a_div : PySem.W.nsIn K mainGlobals "div" = some (some (.ref f_div))) (l_div : K.lookup f_div = some ⟨oc_div, od_div, .func (PySem.W.fnOf "div" "div" (defArgs s_div) (defBody s_div) (defScope s_div) .none kV_div dc_div pm_div an_div cd_div ct_div), sl_div⟩) (c_div : PySem.W.codeIn K cd_div "div" = true) (k_div : PySem.W.keepIn K (.ref f_div) = true)
    (a_neg : PySem.W.nsIn K mainGlobals "neg" = some (some (.ref f_neg))) (l_neg : K.lookup f_neg = some ⟨oc_neg, od_neg, .func (PySem.W.fnOf "neg" "neg" (defArgs s_neg) (defBody s_neg) (defScope s_neg) .none kV_neg dc_neg pm_neg an_neg cd_neg ct_neg), sl_neg⟩) (c_neg : PySem.W.codeIn K cd_neg "neg" = true) (k_neg : PySem.W.keepIn K (.ref f_neg) = true)
    (a_size : PySem.W.nsIn K mainGlobals "size" = some (some (.ref f_size))) (l_size : K.lookup f_size = some ⟨oc_size, od_size, .func (PySem.W.fnOf "size" "size" (defArgs s_size) (defBody s_size) (defScope s_size) .none kV_size dc_size pm_size an_size cd_size ct_size), sl_size⟩) (c_size : PySem.W.codeIn K cd_size "size" = true) (k_size : PySem.W.keepIn K (.ref f_size) = true)
    (a_below : PySem.W.nsIn K mainGlobals "below" = some (some (.ref f_below))) (l_below : K.lookup f_below = some ⟨oc_below, od_below, .func (PySem.W.fnOf "below" "below" (defArgs s_below) (defBody s_below) (defScope s_below) .none kV_below dc_below pm_below an_below cd_below ct_below), sl_below⟩) (c_below : PySem.W.codeIn K cd_below "below" = true) (k_below : PySem.W.keepIn K (.ref f_below) = true)
    (a_total : PySem.W.nsIn K mainGlobals "total" = some (some (.ref f_total))) (l_total : K.lookup f_total = some ⟨oc_total, od_total, .func (PySem.W.fnOf "total" "total" (defArgs s_total) (defBody s_total) (defScope s_total) .none kV_total dc_total pm_total an_total cd_total ct_total), sl_total⟩) (c_total : PySem.W.codeIn K cd_total "total" = true) (k_total : PySem.W.keepIn K (.ref f_total) = true)
    (a_is_fraction : PySem.W.nsIn K mainGlobals "is_fraction" = some (some (.ref f_is_fraction))) (l_is_fraction : K.lookup f_is_fraction = some ⟨oc_is_fraction, od_is_fraction, .func (PySem.W.fnOf "is_fraction" "is_fraction" (defArgs s_is_fraction) (defBody s_is_fraction) (defScope s_is_fraction) .none kV_is_fraction dc_is_fraction pm_is_fraction an_is_fraction cd_is_fraction ct_is_fraction), sl_is_fraction⟩) (c_is_fraction : PySem.W.codeIn K cd_is_fraction "is_fraction" = true) (k_is_fraction : PySem.W.keepIn K (.ref f_is_fraction) = true)
    (a_whole_of : PySem.W.nsIn K mainGlobals "whole_of" = some (some (.ref f_whole_of))) (l_whole_of : K.lookup f_whole_of = some ⟨oc_whole_of, od_whole_of, .func (PySem.W.fnOf "whole_of" "whole_of" (defArgs s_whole_of) (defBody s_whole_of) (defScope s_whole_of) .none kV_whole_of dc_whole_of pm_whole_of an_whole_of cd_whole_of ct_whole_of), sl_whole_of⟩) (c_whole_of : PySem.W.codeIn K cd_whole_of "whole_of" = true) (k_whole_of : PySem.W.keepIn K (.ref f_whole_of) = true)
    (a_number_of : PySem.W.nsIn K mainGlobals "number_of" = some (some (.ref f_number_of))) (l_number_of : K.lookup f_number_of = some ⟨oc_number_of, od_number_of, .func (PySem.W.fnOf "number_of" "number_of" (defArgs s_number_of) (defBody s_number_of) (defScope s_number_of) .none kV_number_of dc_number_of pm_number_of an_number_of cd_number_of ct_number_of), sl_number_of⟩) (c_number_of : PySem.W.codeIn K cd_number_of "number_of" = true) (k_number_of : PySem.W.keepIn K (.ref f_number_of) = true)
    (a_number_text : PySem.W.nsIn K mainGlobals "number_text" = some (some (.ref f_number_text))) (l_number_text : K.lookup f_number_text = some ⟨oc_number_text, od_number_text, .func (PySem.W.fnOf "number_text" "number_text" (defArgs s_number_text) (defBody s_number_text) (defScope s_number_text) .none kV_number_text dc_number_text pm_number_text an_number_text cd_number_text ct_number_text), sl_number_text⟩) (c_number_text : PySem.W.codeIn K cd_number_text "number_text" = true) (k_number_text : PySem.W.keepIn K (.ref f_number_text) = true)
    (a_law_start : PySem.W.nsIn K mainGlobals "_law_start" = some (some (.ref f_law_start))) (l_law_start : K.lookup f_law_start = some ⟨oc_law_start, od_law_start, .func (PySem.W.fnOf "_law_start" "_law_start" (defArgs s_law_start) (defBody s_law_start) (defScope s_law_start) .none kV_law_start dc_law_start pm_law_start an_law_start cd_law_start ct_law_start), sl_law_start⟩) (c_law_start : PySem.W.codeIn K cd_law_start "_law_start" = true) (k_law_start : PySem.W.keepIn K (.ref f_law_start) = true)
    (a_law_take : PySem.W.nsIn K mainGlobals "_law_take" = some (some (.ref f_law_take))) (l_law_take : K.lookup f_law_take = some ⟨oc_law_take, od_law_take, .func (PySem.W.fnOf "_law_take" "_law_take" (defArgs s_law_take) (defBody s_law_take) (defScope s_law_take) .none kV_law_take dc_law_take pm_law_take an_law_take cd_law_take ct_law_take), sl_law_take⟩) (c_law_take : PySem.W.codeIn K cd_law_take "_law_take" = true) (k_law_take : PySem.W.keepIn K (.ref f_law_take) = true)
    (a_law_same : PySem.W.nsIn K mainGlobals "_law_same" = some (some (.ref f_law_same))) (l_law_same : K.lookup f_law_same = some ⟨oc_law_same, od_law_same, .func (PySem.W.fnOf "_law_same" "_law_same" (defArgs s_law_same) (defBody s_law_same) (defScope s_law_same) .none kV_law_same dc_law_same pm_law_same an_law_same cd_law_same ct_law_same), sl_law_same⟩) (c_law_same : PySem.W.codeIn K cd_law_same "_law_same" = true) (k_law_same : PySem.W.keepIn K (.ref f_law_same) = true)
    (a_law_gcd : PySem.W.nsIn K mainGlobals "_law_gcd" = some (some (.ref f_law_gcd))) (l_law_gcd : K.lookup f_law_gcd = some ⟨oc_law_gcd, od_law_gcd, .func (PySem.W.fnOf "_law_gcd" "_law_gcd" (defArgs s_law_gcd) (defBody s_law_gcd) (defScope s_law_gcd) .none kV_law_gcd dc_law_gcd pm_law_gcd an_law_gcd cd_law_gcd ct_law_gcd), sl_law_gcd⟩) (c_law_gcd : PySem.W.codeIn K cd_law_gcd "_law_gcd" = true) (k_law_gcd : PySem.W.keepIn K (.ref f_law_gcd) = true)
    (a_law_ratio : PySem.W.nsIn K mainGlobals "_law_ratio" = some (some (.ref f_law_ratio))) (l_law_ratio : K.lookup f_law_ratio = some ⟨oc_law_ratio, od_law_ratio, .func (PySem.W.fnOf "_law_ratio" "_law_ratio" (defArgs s_law_ratio) (defBody s_law_ratio) (defScope s_law_ratio) .none kV_law_ratio dc_law_ratio pm_law_ratio an_law_ratio cd_law_ratio ct_law_ratio), sl_law_ratio⟩) (c_law_ratio : PySem.W.codeIn K cd_law_ratio "_law_ratio" = true) (k_law_ratio : PySem.W.keepIn K (.ref f_law_ratio) = true)
    (a_law_add : PySem.W.nsIn K mainGlobals "_law_add" = some (some (.ref f_law_add))) (l_law_add : K.lookup f_law_add = some ⟨oc_law_add, od_law_add, .func (PySem.W.fnOf "_law_add" "_law_add" (defArgs s_law_add) (defBody s_law_add) (defScope s_law_add) .none kV_law_add dc_law_add pm_law_add an_law_add cd_law_add ct_law_add), sl_law_add⟩) (c_law_add : PySem.W.codeIn K cd_law_add "_law_add" = true) (k_law_add : PySem.W.keepIn K (.ref f_law_add) = true)
    (a_law_neg : PySem.W.nsIn K mainGlobals "_law_neg" = some (some (.ref f_law_neg))) (l_law_neg : K.lookup f_law_neg = some ⟨oc_law_neg, od_law_neg, .func (PySem.W.fnOf "_law_neg" "_law_neg" (defArgs s_law_neg) (defBody s_law_neg) (defScope s_law_neg) .none kV_law_neg dc_law_neg pm_law_neg an_law_neg cd_law_neg ct_law_neg), sl_law_neg⟩) (c_law_neg : PySem.W.codeIn K cd_law_neg "_law_neg" = true) (k_law_neg : PySem.W.keepIn K (.ref f_law_neg) = true)
    (a_law_sub : PySem.W.nsIn K mainGlobals "_law_sub" = some (some (.ref f_law_sub))) (l_law_sub : K.lookup f_law_sub = some ⟨oc_law_sub, od_law_sub, .func (PySem.W.fnOf "_law_sub" "_law_sub" (defArgs s_law_sub) (defBody s_law_sub) (defScope s_law_sub) .none kV_law_sub dc_law_sub pm_law_sub an_law_sub cd_law_sub ct_law_sub), sl_law_sub⟩) (c_law_sub : PySem.W.codeIn K cd_law_sub "_law_sub" = true) (k_law_sub : PySem.W.keepIn K (.ref f_law_sub) = true)
    (a_law_mul : PySem.W.nsIn K mainGlobals "_law_mul" = some (some (.ref f_law_mul))) (l_law_mul : K.lookup f_law_mul = some ⟨oc_law_mul, od_law_mul, .func (PySem.W.fnOf "_law_mul" "_law_mul" (defArgs s_law_mul) (defBody s_law_mul) (defScope s_law_mul) .none kV_law_mul dc_law_mul pm_law_mul an_law_mul cd_law_mul ct_law_mul), sl_law_mul⟩) (c_law_mul : PySem.W.codeIn K cd_law_mul "_law_mul" = true) (k_law_mul : PySem.W.keepIn K (.ref f_law_mul) = true)
    (a_law_div : PySem.W.nsIn K mainGlobals "_law_div" = some (some (.ref f_law_div))) (l_law_div : K.lookup f_law_div = some ⟨oc_law_div, od_law_div, .func (PySem.W.fnOf "_law_div" "_law_div" (defArgs s_law_div) (defBody s_law_div) (defScope s_law_div) .none kV_law_div dc_law_div pm_law_div an_law_div cd_law_div ct_law_div), sl_law_div⟩) (c_law_div : PySem.W.codeIn K cd_law_div "_law_div" = true) (k_law_div : PySem.W.keepIn K (.ref f_law_div) = true)
    (a_law_less : PySem.W.nsIn K mainGlobals "_law_less" = some (some (.ref f_law_less))) (l_law_less : K.lookup f_law_less = some ⟨oc_law_less, od_law_less, .func (PySem.W.fnOf "_law_less" "_law_less" (defArgs s_law_less) (defBody s_law_less) (defScope s_law_less) .none kV_law_less dc_law_less pm_law_less an_law_less cd_law_less ct_law_less), sl_law_less⟩) (c_law_less : PySem.W.codeIn K cd_law_less "_law_less" = true) (k_law_less : PySem.W.keepIn K (.ref f_law_less) = true)
    (a_law_total : PySem.W.nsIn K mainGlobals "_law_total" = some (some (.ref f_law_total))) (l_law_total : K.lookup f_law_total = some ⟨oc_law_total, od_law_total, .func (PySem.W.fnOf "_law_total" "_law_total" (defArgs s_law_total) (defBody s_law_total) (defScope s_law_total) .none kV_law_total dc_law_total pm_law_total an_law_total cd_law_total ct_law_total), sl_law_total⟩) (c_law_total : PySem.W.codeIn K cd_law_total "_law_total" = true) (k_law_total : PySem.W.keepIn K (.ref f_law_total) = true)
    (a_law_word : PySem.W.nsIn K mainGlobals "_law_word" = some (some (.ref f_law_word))) (l_law_word : K.lookup f_law_word = some ⟨oc_law_word, od_law_word, .func (PySem.W.fnOf "_law_word" "_law_word" (defArgs s_law_word) (defBody s_law_word) (defScope s_law_word) .none kV_law_word dc_law_word pm_law_word an_law_word cd_law_word ct_law_word), sl_law_word⟩) (c_law_word : PySem.W.codeIn K cd_law_word "_law_word" = true) (k_law_word : PySem.W.keepIn K (.ref f_law_word) = true)
    (a_law_great : PySem.W.nsIn K mainGlobals "_law_great" = some (some (.ref f_law_great))) (l_law_great : K.lookup f_law_great = some ⟨oc_law_great, od_law_great, .func (PySem.W.fnOf "_law_great" "_law_great" (defArgs s_law_great) (defBody s_law_great) (defScope s_law_great) .none kV_law_great dc_law_great pm_law_great an_law_great cd_law_great ct_law_great), sl_law_great⟩) (c_law_great : PySem.W.codeIn K cd_law_great "_law_great" = true) (k_law_great : PySem.W.keepIn K (.ref f_law_great) = true)
    (a_law_fraction : PySem.W.nsIn K mainGlobals "_law_fraction" = some (some (.ref f_law_fraction))) (l_law_fraction : K.lookup f_law_fraction = some ⟨oc_law_fraction, od_law_fraction, .func (PySem.W.fnOf "_law_fraction" "_law_fraction" (defArgs s_law_fraction) (defBody s_law_fraction) (defScope s_law_fraction) .none kV_law_fraction dc_law_fraction pm_law_fraction an_law_fraction cd_law_fraction ct_law_fraction), sl_law_fraction⟩) (c_law_fraction : PySem.W.codeIn K cd_law_fraction "_law_fraction" = true) (k_law_fraction : PySem.W.keepIn K (.ref f_law_fraction) = true)
    (a_law_values : PySem.W.nsIn K mainGlobals "_law_values" = some (some (.ref f_law_values))) (l_law_values : K.lookup f_law_values = some ⟨oc_law_values, od_law_values, .func (PySem.W.fnOf "_law_values" "_law_values" (defArgs s_law_values) (defBody s_law_values) (defScope s_law_values) .none kV_law_values dc_law_values pm_law_values an_law_values cd_law_values ct_law_values), sl_law_values⟩) (c_law_values : PySem.W.codeIn K cd_law_values "_law_values" = true) (k_law_values : PySem.W.keepIn K (.ref f_law_values) = true)
    (a_law : PySem.W.nsIn K mainGlobals "law" = some (some (.ref f_law))) (l_law : K.lookup f_law = some ⟨oc_law, od_law, .func (PySem.W.fnOf "law" "law" (defArgs s_law) (defBody s_law) (defScope s_law) .none kV_law dc_law pm_law an_law cd_law ct_law), sl_law⟩) (c_law : PySem.W.codeIn K cd_law "law" = true) (k_law : PySem.W.keepIn K (.ref f_law) = true)
    (z_abs : PySem.W.nsIn K mainGlobals "abs" = some none)
    (z_all : PySem.W.nsIn K mainGlobals "all" = some none)
    (z_any : PySem.W.nsIn K mainGlobals "any" = some none)
    (z_bool : PySem.W.nsIn K mainGlobals "bool" = some none)
    (z_dict : PySem.W.nsIn K mainGlobals "dict" = some none)
    (z_int : PySem.W.nsIn K mainGlobals "int" = some none)
    (z_isinstance : PySem.W.nsIn K mainGlobals "isinstance" = some none)
    (z_len : PySem.W.nsIn K mainGlobals "len" = some none)
    (z_list : PySem.W.nsIn K mainGlobals "list" = some none)
    (z_min : PySem.W.nsIn K mainGlobals "min" = some none)
    (z_range : PySem.W.nsIn K mainGlobals "range" = some none)
    (z_str : PySem.W.nsIn K mainGlobals "str" = some none)
    (z_tuple : PySem.W.nsIn K mainGlobals "tuple" = some none)
    (g_ZERO : PySem.W.nsIn K mainGlobals "ZERO" = some (some (.ref q_ZERO))) (h_ZERO : K.lookup q_ZERO = some ⟨.type "tuple", qd_ZERO, .seq #[.int 0 t_ZERO0, .int 1 t_ZERO1] qn_ZERO, qs_ZERO⟩)
    (g_DIGITS : PySem.W.nsIn K mainGlobals "DIGITS" = some (some (.str (Str.ofString "0123456789") t_DIGITS)))
    (g_MOST_NUMBER : PySem.W.nsIn K mainGlobals "MOST_NUMBER" = some (some (.int 1000 t_MOST_NUMBER))) :
    ∃ fd : FuncData, (∀ (s : Shared) (v : Value), BindsTo s fd ⟨[v], []⟩ [("script", v)]) ∧ ∀ base : Heap, K.In base → base.Ns mainGlobals mg → FnOk l.prog w K mg base CX0 9 fa fd ["script"] (spD K 1 m_law) := by
  have e := hfa.symm.trans (PySem.W.mg_of X G a_law)
  cases e
  have F_gcd := fun_mk (st := s_gcd) l_gcd c_gcd k_gcd
  have F_ratio := fun_mk (st := s_ratio) l_ratio c_ratio k_ratio
  have F_add := fun_mk (st := s_add) l_add c_add k_add
  have F_sub := fun_mk (st := s_sub) l_sub c_sub k_sub
  have F_mul := fun_mk (st := s_mul) l_mul c_mul k_mul
  have F_div := fun_mk (st := s_div) l_div c_div k_div
  have F_neg := fun_mk (st := s_neg) l_neg c_neg k_neg
  have F_size := fun_mk (st := s_size) l_size c_size k_size
  have F_below := fun_mk (st := s_below) l_below c_below k_below
  have F_total := fun_mk (st := s_total) l_total c_total k_total
  have F_is_fraction := fun_mk (st := s_is_fraction) l_is_fraction c_is_fraction k_is_fraction
  have F_whole_of := fun_mk (st := s_whole_of) l_whole_of c_whole_of k_whole_of
  have F_number_of := fun_mk (st := s_number_of) l_number_of c_number_of k_number_of
  have F_number_text := fun_mk (st := s_number_text) l_number_text c_number_text k_number_text
  have F_law_start := fun_mk (st := s_law_start) l_law_start c_law_start k_law_start
  have F_law_take := fun_mk (st := s_law_take) l_law_take c_law_take k_law_take
  have F_law_same := fun_mk (st := s_law_same) l_law_same c_law_same k_law_same
  have F_law_gcd := fun_mk (st := s_law_gcd) l_law_gcd c_law_gcd k_law_gcd
  have F_law_ratio := fun_mk (st := s_law_ratio) l_law_ratio c_law_ratio k_law_ratio
  have F_law_add := fun_mk (st := s_law_add) l_law_add c_law_add k_law_add
  have F_law_neg := fun_mk (st := s_law_neg) l_law_neg c_law_neg k_law_neg
  have F_law_sub := fun_mk (st := s_law_sub) l_law_sub c_law_sub k_law_sub
  have F_law_mul := fun_mk (st := s_law_mul) l_law_mul c_law_mul k_law_mul
  have F_law_div := fun_mk (st := s_law_div) l_law_div c_law_div k_law_div
  have F_law_less := fun_mk (st := s_law_less) l_law_less c_law_less k_law_less
  have F_law_total := fun_mk (st := s_law_total) l_law_total c_law_total k_law_total
  have F_law_word := fun_mk (st := s_law_word) l_law_word c_law_word k_law_word
  have F_law_great := fun_mk (st := s_law_great) l_law_great c_law_great k_law_great
  have F_law_fraction := fun_mk (st := s_law_fraction) l_law_fraction c_law_fraction k_law_fraction
  have F_law_values := fun_mk (st := s_law_values) l_law_values c_law_values k_law_values
  have F_law := fun_mk (st := s_law) l_law c_law k_law
  have hB : ∀ x : Str, blt.contains x = true → mg x = none := fun x hx => by
    have hx2 : x ∈ blt := List.contains_iff_mem.mp hx
    unfold blt at hx2
    simp only [List.mem_cons, List.not_mem_nil, or_false] at hx2
    rcases hx2 with hx2 | hx2 | hx2 | hx2 | hx2 | hx2 | hx2 | hx2 | hx2 | hx2 | hx2 | hx2 | hx2
    · subst hx2; exact PySem.W.mg_none_of X G z_abs
    · subst hx2; exact PySem.W.mg_none_of X G z_all
    · subst hx2; exact PySem.W.mg_none_of X G z_any
    · subst hx2; exact PySem.W.mg_none_of X G z_bool
    · subst hx2; exact PySem.W.mg_none_of X G z_dict
    · subst hx2; exact PySem.W.mg_none_of X G z_int
    · subst hx2; exact PySem.W.mg_none_of X G z_isinstance
    · subst hx2; exact PySem.W.mg_none_of X G z_len
    · subst hx2; exact PySem.W.mg_none_of X G z_list
    · subst hx2; exact PySem.W.mg_none_of X G z_min
    · subst hx2; exact PySem.W.mg_none_of X G z_range
    · subst hx2; exact PySem.W.mg_none_of X G z_str
    · subst hx2; exact PySem.W.mg_none_of X G z_tuple
  have C_ZERO : ConstOk K mg "ZERO" c_ZERO := ConstOk.tup (vs := [.int 0, .int 1]) (PySem.W.mg_of X G g_ZERO) h_ZERO (show (2 : Nat) ≤ sizeLine by decide) (.cons ⟨_, rfl⟩ (.cons ⟨_, rfl⟩ (.nil))) fun F => repL_cons.mpr ⟨_, _, rfl, rep_int.mpr rfl, repL_cons.mpr ⟨_, _, rfl, rep_int.mpr rfl, repL_nil.mpr rfl⟩⟩
  have C_DIGITS : ConstOk K mg "DIGITS" c_DIGITS := ConstOk.str (PySem.W.mg_of X G g_DIGITS)
  have C_MOST_NUMBER : ConstOk K mg "MOST_NUMBER" c_MOST_NUMBER := ConstOk.int (PySem.W.mg_of X G g_MOST_NUMBER)
  refine ⟨PySem.W.fnOf "law" "law" (defArgs s_law) (defBody s_law) (defScope s_law) .none kV_law dc_law pm_law an_law cd_law ct_law, fun s v => .of_eq rfl, fun base _ _ => ?_⟩
  have D_gcd : DefOk l.prog w K mg base "gcd" 1 ["one", "other"] m_gcd := ⟨f_gcd, _, ok_gcd F_gcd hB, PySem.W.mg_of X G a_gcd, F_gcd.kp, F_gcd.binds (ps := ["one", "other"]) fun _ _ _ _ _ _ us hl => match us, hl with | [_, _], _ => rfl⟩
  have D_ratio : DefOk l.prog w K mg base "ratio" 2 ["p", "q"] m_ratio := ⟨f_ratio, _, ok_ratio F_ratio hB D_gcd, PySem.W.mg_of X G a_ratio, F_ratio.kp, F_ratio.binds (ps := ["p", "q"]) fun _ _ _ _ _ _ us hl => match us, hl with | [_, _], _ => rfl⟩
  have D_add : DefOk l.prog w K mg base "add" 3 ["one", "other"] m_add := ⟨f_add, _, ok_add F_add hB D_ratio, PySem.W.mg_of X G a_add, F_add.kp, F_add.binds (ps := ["one", "other"]) fun _ _ _ _ _ _ us hl => match us, hl with | [_, _], _ => rfl⟩
  have D_sub : DefOk l.prog w K mg base "sub" 3 ["one", "other"] m_sub := ⟨f_sub, _, ok_sub F_sub hB D_ratio, PySem.W.mg_of X G a_sub, F_sub.kp, F_sub.binds (ps := ["one", "other"]) fun _ _ _ _ _ _ us hl => match us, hl with | [_, _], _ => rfl⟩
  have D_mul : DefOk l.prog w K mg base "mul" 3 ["one", "other"] m_mul := ⟨f_mul, _, ok_mul F_mul hB D_ratio, PySem.W.mg_of X G a_mul, F_mul.kp, F_mul.binds (ps := ["one", "other"]) fun _ _ _ _ _ _ us hl => match us, hl with | [_, _], _ => rfl⟩
  have D_div : DefOk l.prog w K mg base "div" 3 ["one", "other"] m_div := ⟨f_div, _, ok_div F_div hB D_ratio, PySem.W.mg_of X G a_div, F_div.kp, F_div.binds (ps := ["one", "other"]) fun _ _ _ _ _ _ us hl => match us, hl with | [_, _], _ => rfl⟩
  have D_neg : DefOk l.prog w K mg base "neg" 1 ["one"] m_neg := ⟨f_neg, _, ok_neg F_neg hB, PySem.W.mg_of X G a_neg, F_neg.kp, F_neg.binds (ps := ["one"]) fun _ _ _ _ _ _ us hl => match us, hl with | [_], _ => rfl⟩
  have D_size : DefOk l.prog w K mg base "size" 1 ["one"] m_size := ⟨f_size, _, ok_size F_size hB, PySem.W.mg_of X G a_size, F_size.kp, F_size.binds (ps := ["one"]) fun _ _ _ _ _ _ us hl => match us, hl with | [_], _ => rfl⟩
  have D_below : DefOk l.prog w K mg base "below" 1 ["one", "other"] m_below := ⟨f_below, _, ok_below F_below hB, PySem.W.mg_of X G a_below, F_below.kp, F_below.binds (ps := ["one", "other"]) fun _ _ _ _ _ _ us hl => match us, hl with | [_, _], _ => rfl⟩
  have D_total : DefOk l.prog w K mg base "total" 4 ["numbers"] m_total := ⟨f_total, _, ok_total F_total hB C_ZERO D_add, PySem.W.mg_of X G a_total, F_total.kp, F_total.binds (ps := ["numbers"]) fun _ _ _ _ _ _ us hl => match us, hl with | [_], _ => rfl⟩
  have D_is_fraction : DefOk l.prog w K mg base "is_fraction" 2 ["value"] m_is_fraction := ⟨f_is_fraction, _, ok_is_fraction F_is_fraction hB D_gcd, PySem.W.mg_of X G a_is_fraction, F_is_fraction.kp, F_is_fraction.binds (ps := ["value"]) fun _ _ _ _ _ _ us hl => match us, hl with | [_], _ => rfl⟩
  have D_whole_of : DefOk l.prog w K mg base "whole_of" 1 ["word"] m_whole_of := ⟨f_whole_of, _, ok_whole_of F_whole_of hB C_DIGITS, PySem.W.mg_of X G a_whole_of, F_whole_of.kp, F_whole_of.binds (ps := ["word"]) fun _ _ _ _ _ _ us hl => match us, hl with | [_], _ => rfl⟩
  have D_number_of : DefOk l.prog w K mg base "number_of" 2 ["word"] m_number_of := ⟨f_number_of, _, ok_number_of F_number_of hB C_MOST_NUMBER D_whole_of D_gcd, PySem.W.mg_of X G a_number_of, F_number_of.kp, F_number_of.binds (ps := ["word"]) fun _ _ _ _ _ _ us hl => match us, hl with | [_], _ => rfl⟩
  have D_number_text : DefOk l.prog w K mg base "number_text" 1 ["number"] m_number_text := ⟨f_number_text, _, ok_number_text F_number_text hB, PySem.W.mg_of X G a_number_text, F_number_text.kp, F_number_text.binds (ps := ["number"]) fun _ _ _ _ _ _ us hl => match us, hl with | [_], _ => rfl⟩
  have D_law_start : DefOk l.prog w K mg base "_law_start" 1 ["script"] m_law_start := ⟨f_law_start, _, ok_law_start F_law_start hB, PySem.W.mg_of X G a_law_start, F_law_start.kp, F_law_start.binds (ps := ["script"]) fun _ _ _ _ _ _ us hl => match us, hl with | [_], _ => rfl⟩
  have D_law_take : DefOk l.prog w K mg base "_law_take" 1 ["state", "m"] m_law_take := ⟨f_law_take, _, ok_law_take F_law_take hB, PySem.W.mg_of X G a_law_take, F_law_take.kp, F_law_take.binds (ps := ["state", "m"]) fun _ _ _ _ _ _ us hl => match us, hl with | [_, _], _ => rfl⟩
  have D_law_same : DefOk l.prog w K mg base "_law_same" 8 ["one", "two"] m_law_same := by
    rw [m_law_same_eq]
    exact recOk (M := r_law_same) (fun _ => rfl) (PySem.W.mg_of X G a_law_same) F_law_same.kp (F_law_same.binds (ps := ["one", "two"]) fun _ _ _ _ _ _ us hl => match us, hl with | [_, _], _ => rfl) (fun n D => okS_law_same F_law_same hB n D) 8
  have D_law_gcd : DefOk l.prog w K mg base "_law_gcd" 1 ["one", "other"] m_law_gcd := ⟨f_law_gcd, _, ok_law_gcd F_law_gcd hB, PySem.W.mg_of X G a_law_gcd, F_law_gcd.kp, F_law_gcd.binds (ps := ["one", "other"]) fun _ _ _ _ _ _ us hl => match us, hl with | [_, _], _ => rfl⟩
  have D_law_ratio : DefOk l.prog w K mg base "_law_ratio" 2 ["top", "bottom"] m_law_ratio := ⟨f_law_ratio, _, ok_law_ratio F_law_ratio hB D_law_gcd, PySem.W.mg_of X G a_law_ratio, F_law_ratio.kp, F_law_ratio.binds (ps := ["top", "bottom"]) fun _ _ _ _ _ _ us hl => match us, hl with | [_, _], _ => rfl⟩
  have D_law_add : DefOk l.prog w K mg base "_law_add" 3 ["one", "other"] m_law_add := ⟨f_law_add, _, ok_law_add F_law_add hB D_law_ratio, PySem.W.mg_of X G a_law_add, F_law_add.kp, F_law_add.binds (ps := ["one", "other"]) fun _ _ _ _ _ _ us hl => match us, hl with | [_, _], _ => rfl⟩
  have D_law_neg : DefOk l.prog w K mg base "_law_neg" 1 ["one"] m_law_neg := ⟨f_law_neg, _, ok_law_neg F_law_neg hB, PySem.W.mg_of X G a_law_neg, F_law_neg.kp, F_law_neg.binds (ps := ["one"]) fun _ _ _ _ _ _ us hl => match us, hl with | [_], _ => rfl⟩
  have D_law_sub : DefOk l.prog w K mg base "_law_sub" 4 ["one", "other"] m_law_sub := ⟨f_law_sub, _, ok_law_sub F_law_sub hB D_law_neg D_law_add, PySem.W.mg_of X G a_law_sub, F_law_sub.kp, F_law_sub.binds (ps := ["one", "other"]) fun _ _ _ _ _ _ us hl => match us, hl with | [_, _], _ => rfl⟩
  have D_law_mul : DefOk l.prog w K mg base "_law_mul" 3 ["one", "other"] m_law_mul := ⟨f_law_mul, _, ok_law_mul F_law_mul hB D_law_ratio, PySem.W.mg_of X G a_law_mul, F_law_mul.kp, F_law_mul.binds (ps := ["one", "other"]) fun _ _ _ _ _ _ us hl => match us, hl with | [_, _], _ => rfl⟩
  have D_law_div : DefOk l.prog w K mg base "_law_div" 3 ["one", "other"] m_law_div := ⟨f_law_div, _, ok_law_div F_law_div hB D_law_ratio, PySem.W.mg_of X G a_law_div, F_law_div.kp, F_law_div.binds (ps := ["one", "other"]) fun _ _ _ _ _ _ us hl => match us, hl with | [_, _], _ => rfl⟩
  have D_law_less : DefOk l.prog w K mg base "_law_less" 1 ["one", "other"] m_law_less := ⟨f_law_less, _, ok_law_less F_law_less hB, PySem.W.mg_of X G a_law_less, F_law_less.kp, F_law_less.binds (ps := ["one", "other"]) fun _ _ _ _ _ _ us hl => match us, hl with | [_, _], _ => rfl⟩
  have D_law_total : DefOk l.prog w K mg base "_law_total" 4 ["numbers"] m_law_total := ⟨f_law_total, _, ok_law_total F_law_total hB D_law_add, PySem.W.mg_of X G a_law_total, F_law_total.kp, F_law_total.binds (ps := ["numbers"]) fun _ _ _ _ _ _ us hl => match us, hl with | [_], _ => rfl⟩
  have D_law_word : DefOk l.prog w K mg base "_law_word" 1 ["number"] m_law_word := ⟨f_law_word, _, ok_law_word F_law_word hB, PySem.W.mg_of X G a_law_word, F_law_word.kp, F_law_word.binds (ps := ["number"]) fun _ _ _ _ _ _ us hl => match us, hl with | [_], _ => rfl⟩
  have D_law_great : DefOk l.prog w K mg base "_law_great" 2 ["state"] m_law_great := ⟨f_law_great, _, ok_law_great F_law_great hB D_law_take, PySem.W.mg_of X G a_law_great, F_law_great.kp, F_law_great.binds (ps := ["state"]) fun _ _ _ _ _ _ us hl => match us, hl with | [_], _ => rfl⟩
  have D_law_fraction : DefOk l.prog w K mg base "_law_fraction" 3 ["state"] m_law_fraction := ⟨f_law_fraction, _, ok_law_fraction F_law_fraction hB D_law_great D_law_ratio, PySem.W.mg_of X G a_law_fraction, F_law_fraction.kp, F_law_fraction.binds (ps := ["state"]) fun _ _ _ _ _ _ us hl => match us, hl with | [_], _ => rfl⟩
  have D_law_values : DefOk l.prog w K mg base "_law_values" 1 ["one"] m_law_values := ⟨f_law_values, _, ok_law_values F_law_values hB, PySem.W.mg_of X G a_law_values, F_law_values.kp, F_law_values.binds (ps := ["one"]) fun _ _ _ _ _ _ us hl => match us, hl with | [_], _ => rfl⟩
  exact ok_law F_law hB D_law_start D_law_take D_law_great D_law_gcd D_gcd D_law_same D_law_ratio D_ratio D_law_fraction D_law_neg D_law_less D_law_mul D_law_sub D_law_add D_below D_size D_neg D_mul D_sub D_add D_law_div D_div D_law_total D_total D_is_fraction D_law_values D_law_word D_number_text D_number_of
theorem law_sp {K : PySem.W.Frag} {H : Hp} {a : Addr} {ns : List Int} {E : XK} (hl : ns.length ≤ 63) (hb : ∀ z ∈ ns, Builtin.Int.intBits z ≤ 1048576) (hS : SqL K H a (ns.map V.int)) : spD K 1 m_law [.ref a] H (fun v _ => v = .bl true) E := by
  have e := e_law (a := a) (ns := ns) (by omega) hb (Q := fun t _ => t = .dat (.bool true)) fun _ => rfl
  unfold Sem.wp at e
  cases hm : m_law [some (.scr a ns)] with
  | none => rw [hm] at e; exact e.elim
  | some x =>
    obtain ⟨t, ρ'⟩ := x
    rw [hm] at e
    have et : t = .dat (.bool true) := e
    subst et
    exact spD.scr hS hm fun F v B H' h => rep_bool.mp h.1
end K00
open PySem PySem.W PyProof.Rows
set_option maxHeartbeats 0 in
theorem PySem.Challenge.cw_standproof_k00_fractions_of_many_figures_holds : PySem.Challenge.rw_standproof_k00_fractions_of_many_figures.Holds := by
  w_on; o_law; k_head; (case hw => w_witness2)
  k_fill
  refine L2.walk_ofB (l := PySem.Challenge.rw_standproof_k00_fractions_of_many_figures) (n := 63) (k := 9) (x := "script") (CX := fun _ => L2.CX0) (sp := fun w => Sem.spD _ 1 K00.m_law) rfl (by decide) rfl ⟨rfl, by decide, by decide⟩ (fun w h Y => PySem.W.kIn_of Y) ?F (fun _ _ a ns hl hb _ hS => K00.law_sp hl hb hS) (fun _ _ _ _ _ h => h)
  case F =>
    intro w mg fa h KX G hmg
    refine' K00.all_mk KX G hmg ?a_gcd ?l_gcd ?c_gcd ?k_gcd ?a_ratio ?l_ratio ?c_ratio ?k_ratio ?a_add ?l_add ?c_add ?k_add ?a_sub ?l_sub ?c_sub ?k_sub ?a_mul ?l_mul ?c_mul ?k_mul ?a_div ?l_div ?c_div ?k_div ?a_neg ?l_neg ?c_neg ?k_neg ?a_size ?l_size ?c_size ?k_size ?a_below ?l_below ?c_below ?k_below ?a_total ?l_total ?c_total ?k_total ?a_is_fraction ?l_is_fraction ?c_is_fraction ?k_is_fraction ?a_whole_of ?l_whole_of ?c_whole_of ?k_whole_of ?a_number_of ?l_number_of ?c_number_of ?k_number_of ?a_number_text ?l_number_text ?c_number_text ?k_number_text ?a_law_start ?l_law_start ?c_law_start ?k_law_start ?a_law_take ?l_law_take ?c_law_take ?k_law_take ?a_law_same ?l_law_same ?c_law_same ?k_law_same ?a_law_gcd ?l_law_gcd ?c_law_gcd ?k_law_gcd ?a_law_ratio ?l_law_ratio ?c_law_ratio ?k_law_ratio ?a_law_add ?l_law_add ?c_law_add ?k_law_add ?a_law_neg ?l_law_neg ?c_law_neg ?k_law_neg ?a_law_sub ?l_law_sub ?c_law_sub ?k_law_sub ?a_law_mul ?l_law_mul ?c_law_mul ?k_law_mul ?a_law_div ?l_law_div ?c_law_div ?k_law_div ?a_law_less ?l_law_less ?c_law_less ?k_law_less ?a_law_total ?l_law_total ?c_law_total ?k_law_total ?a_law_word ?l_law_word ?c_law_word ?k_law_word ?a_law_great ?l_law_great ?c_law_great ?k_law_great ?a_law_fraction ?l_law_fraction ?c_law_fraction ?k_law_fraction ?a_law_values ?l_law_values ?c_law_values ?k_law_values ?a_law ?l_law ?c_law ?k_law ?z_abs ?z_all ?z_any ?z_bool ?z_dict ?z_int ?z_isinstance ?z_len ?z_list ?z_min ?z_range ?z_str ?z_tuple ?g_ZERO ?h_ZERO ?g_DIGITS ?g_MOST_NUMBER
    (case a_gcd => k_is)
    (case l_gcd => k_is)
    (case c_gcd => k_is)
    (case k_gcd => k_is)
    (case a_ratio => k_is)
    (case l_ratio => k_is)
    (case c_ratio => k_is)
    (case k_ratio => k_is)
    (case a_add => k_is)
    (case l_add => k_is)
    (case c_add => k_is)
    (case k_add => k_is)
    (case a_sub => k_is)
    (case l_sub => k_is)
    (case c_sub => k_is)
    (case k_sub => k_is)
    (case a_mul => k_is)
    (case l_mul => k_is)
    (case c_mul => k_is)
    (case k_mul => k_is)
    (case a_div => k_is)
    (case l_div => k_is)
    (case c_div => k_is)
    (case k_div => k_is)
    (case a_neg => k_is)
    (case l_neg => k_is)
    (case c_neg => k_is)
    (case k_neg => k_is)
    (case a_size => k_is)
    (case l_size => k_is)
    (case c_size => k_is)
    (case k_size => k_is)
    (case a_below => k_is)
    (case l_below => k_is)
    (case c_below => k_is)
    (case k_below => k_is)
    (case a_total => k_is)
    (case l_total => k_is)
    (case c_total => k_is)
    (case k_total => k_is)
    (case a_is_fraction => k_is)
    (case l_is_fraction => k_is)
    (case c_is_fraction => k_is)
    (case k_is_fraction => k_is)
    (case a_whole_of => k_is)
    (case l_whole_of => k_is)
    (case c_whole_of => k_is)
    (case k_whole_of => k_is)
    (case a_number_of => k_is)
    (case l_number_of => k_is)
    (case c_number_of => k_is)
    (case k_number_of => k_is)
    (case a_number_text => k_is)
    (case l_number_text => k_is)
    (case c_number_text => k_is)
    (case k_number_text => k_is)
    (case a_law_start => k_is)
    (case l_law_start => k_is)
    (case c_law_start => k_is)
    (case k_law_start => k_is)
    (case a_law_take => k_is)
    (case l_law_take => k_is)
    (case c_law_take => k_is)
    (case k_law_take => k_is)
    (case a_law_same => k_is)
    (case l_law_same => k_is)
    (case c_law_same => k_is)
    (case k_law_same => k_is)
    (case a_law_gcd => k_is)
    (case l_law_gcd => k_is)
    (case c_law_gcd => k_is)
    (case k_law_gcd => k_is)
    (case a_law_ratio => k_is)
    (case l_law_ratio => k_is)
    (case c_law_ratio => k_is)
    (case k_law_ratio => k_is)
    (case a_law_add => k_is)
    (case l_law_add => k_is)
    (case c_law_add => k_is)
    (case k_law_add => k_is)
    (case a_law_neg => k_is)
    (case l_law_neg => k_is)
    (case c_law_neg => k_is)
    (case k_law_neg => k_is)
    (case a_law_sub => k_is)
    (case l_law_sub => k_is)
    (case c_law_sub => k_is)
    (case k_law_sub => k_is)
    (case a_law_mul => k_is)
    (case l_law_mul => k_is)
    (case c_law_mul => k_is)
    (case k_law_mul => k_is)
    (case a_law_div => k_is)
    (case l_law_div => k_is)
    (case c_law_div => k_is)
    (case k_law_div => k_is)
    (case a_law_less => k_is)
    (case l_law_less => k_is)
    (case c_law_less => k_is)
    (case k_law_less => k_is)
    (case a_law_total => k_is)
    (case l_law_total => k_is)
    (case c_law_total => k_is)
    (case k_law_total => k_is)
    (case a_law_word => k_is)
    (case l_law_word => k_is)
    (case c_law_word => k_is)
    (case k_law_word => k_is)
    (case a_law_great => k_is)
    (case l_law_great => k_is)
    (case c_law_great => k_is)
    (case k_law_great => k_is)
    (case a_law_fraction => k_is)
    (case l_law_fraction => k_is)
    (case c_law_fraction => k_is)
    (case k_law_fraction => k_is)
    (case a_law_values => k_is)
    (case l_law_values => k_is)
    (case c_law_values => k_is)
    (case k_law_values => k_is)
    (case a_law => k_is)
    (case l_law => k_is)
    (case c_law => k_is)
    (case k_law => k_is)
    (case z_abs => k_is)
    (case z_all => k_is)
    (case z_any => k_is)
    (case z_bool => k_is)
    (case z_dict => k_is)
    (case z_int => k_is)
    (case z_isinstance => k_is)
    (case z_len => k_is)
    (case z_list => k_is)
    (case z_min => k_is)
    (case z_range => k_is)
    (case z_str => k_is)
    (case z_tuple => k_is)
    (case g_ZERO => k_is)
    (case h_ZERO => k_is)
    (case g_DIGITS => k_is)
    (case g_MOST_NUMBER => k_is)
