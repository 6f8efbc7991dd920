import PyProof.Rows.All
import Wide.All
import OpenK.AllK
import Wide.FinOn
import HandS.ForMost
import HandS.EndTab
import HandS.Wide
import HandS.TupAny
import HandS.Conv
import HandS.Zip
import HandS.Style
import HandS.IsInst
import KE.GoesMore
import KE.GoesEnum
import KE.GoesZip
import KE.SortKeyHeap
import KE.KNestM
import KE.DataMinMax
import KE.DatumOrd
import KE.IntBitsLaws
import PySem.Challenge.RW_everyfolk_k86_checks_just_the_spanned_ro
set_option Elab.async false
set_option linter.all false
set_option maxRecDepth 100000
set_option maxHeartbeats 20000000
/-! The W layer, part 1: values, cells, the relation, the judgements. -/
namespace WL
open PySem PySem.Spec L2

/-- a value: tuples and frozen lists by value; ref n: the n-th cell of the memory; glb a: a thing of the written part -/
inductive D where
  | non | bl (b : Bool) | int (i : Int) | str (x : Str) | tup (ds : List D) | lst (ds : List D) | fl (ds : List D) | ref (n : Nat) | glb (a : Addr) | ty (n : String)
/-- what can change -/
inductive Cell where
  | lst (ds : List D) | dK (kvs : List (Key × D)) | ins (C : Addr) (fs : List (Str × D)) | dead
abbrev Mem := List Cell
abbrev En := List (Option D)
/-- where the cells lie; what is frozen -/
structure Wd where
  φ : List Addr
  Hf : Hp
def Wd.le (a b : Wd) : Prop := a.φ <+: b.φ ∧ Same a.Hf b.Hf
theorem Wd.le.refl (a : Wd) : a.le a := ⟨List.prefix_refl _, Same.refl _⟩
theorem Wd.le.trans {a b c : Wd} (x : a.le b) (y : b.le c) : a.le c := ⟨x.1.trans y.1, x.2.trans y.2⟩
theorem Wd.le.at {a b : Wd} (x : a.le b) {n : Nat} {p : Addr} (h : a.φ[n]? = some p) : b.φ[n]? = some p := by
  obtain ⟨t, e⟩ := x.1
  rw [← e, List.getElem?_append_left (List.getElem?_eq_some_iff.mp h).1]
  exact h

theorem Same.seqT {K : PySem.W.Frag} {H H' : Hp} {a : Addr} {xs : List V} (e : Same H H') (h : SqT K H a xs) : SqT K H' a xs := by
  rcases h with (h | ⟨o, h⟩) | h
  · exact .inl (.inl (e _ _ h))
  · exact .inl (.inr ⟨o, e _ _ h⟩)
  · exact .inr h

section
variable (K : PySem.W.Frag)
mutual
/-- the value v stands for d -/
def Rep (ω : Wd) : D → V → Prop
  | .non, v => v = .non
  | .bl b, v => v = .bl b
  | .int i, v => v = .int i
  | .str x, v => v = .str x
  | .tup ds, v => ∃ a xs, v = .ref a ∧ SqT K ω.Hf a xs ∧ RepL ω ds xs
  | .lst ds, v => ∃ a xs, v = .ref a ∧ ω.Hf a = some (.lst xs) ∧ RepL ω ds xs
  | .fl ds, v => ∃ a xs, v = .ref a ∧ SqL K ω.Hf a xs ∧ RepL ω ds xs
  | .ty n, v => v = .ty n
  | .ref n, v => ∃ a, ω.φ[n]? = some a ∧ v = .ref a
  | .glb a, v => v = .ref a
def RepL (ω : Wd) : List D → List V → Prop
  | [], xs => xs = []
  | d :: ds, xs => ∃ x r, xs = x :: r ∧ Rep ω d x ∧ RepL ω ds r
end
end
section
variable {K : PySem.W.Frag} {ω ω' : Wd}
mutual
theorem Rep.mono (h : ω.le ω') : ∀ (d : D) {v : V}, Rep K ω d v → Rep K ω' d v
  | .non, _, r => r
  | .bl _, _, r => r
  | .int _, _, r => r
  | .str _, _, r => r
  | .tup ds, _, r => by
    obtain ⟨a, xs, e, s, l⟩ := r
    exact ⟨a, xs, e, Same.seqT h.2 s, RepL.mono h ds l⟩
  | .lst ds, _, r => by
    obtain ⟨a, xs, e, s, l⟩ := r
    exact ⟨a, xs, e, h.2 _ _ s, RepL.mono h ds l⟩
  | .fl ds, _, r => by
    obtain ⟨a, xs, e, s, l⟩ := r
    exact ⟨a, xs, e, h.2.seq s, RepL.mono h ds l⟩
  | .ty _, _, r => r
  | .ref n, _, r => by
    obtain ⟨a, e, f⟩ := r
    exact ⟨a, h.at e, f⟩
  | .glb _, _, r => r
theorem RepL.mono (h : ω.le ω') : ∀ (ds : List D) {xs : List V}, RepL K ω ds xs → RepL K ω' ds xs
  | [], _, r => r
  | d :: ds, _, r => by
    obtain ⟨x, t, e, a, b⟩ := r
    exact ⟨x, t, e, Rep.mono h d a, RepL.mono h ds b⟩
end
theorem RepL.length : ∀ {ds : List D} {xs : List V}, RepL K ω ds xs → xs.length = ds.length
  | [], xs, r => by
    have e : xs = [] := r
    rw [e]
    rfl
  | d :: ds, _, r => by
    obtain ⟨x, t, e, _, b⟩ := r
    rw [e, List.length_cons, List.length_cons, RepL.length b]
theorem RepL.nil : RepL K ω [] [] := rfl
theorem RepL.cons {d : D} {v : V} {ds : List D} {xs : List V} (a : Rep K ω d v) (b : RepL K ω ds xs) : RepL K ω (d :: ds) (v :: xs) := ⟨v, xs, rfl, a, b⟩
theorem RepL.append : ∀ {ds es : List D} {xs ys : List V}, RepL K ω ds xs → RepL K ω es ys → RepL K ω (ds ++ es) (xs ++ ys)
  | [], es, xs, ys, a, b => by
    have e : xs = [] := a
    rw [e]
    exact b
  | d :: ds, es, xs, ys, a, b => by
    obtain ⟨x, t, e, h1, h2⟩ := a
    rw [e]
    exact ⟨x, t ++ ys, rfl, h1, RepL.append h2 b⟩
theorem RepL.get : ∀ {ds : List D} {xs : List V} {i : Nat} {d : D}, RepL K ω ds xs → ds[i]? = some d → ∃ v, xs[i]? = some v ∧ Rep K ω d v
  | [], xs, i, d, a, h => by simp at h
  | e :: ds, xs, 0, d, a, h => by
    obtain ⟨x, t, e1, h1, h2⟩ := a
    have e2 : e = d := by simpa using h
    subst e2
    exact ⟨x, by rw [e1]; rfl, h1⟩
  | e :: ds, xs, i + 1, d, a, h => by
    obtain ⟨x, t, e1, h1, h2⟩ := a
    obtain ⟨v, h3, h4⟩ := RepL.get (i := i) h2 (by simpa using h)
    exact ⟨v, by rw [e1]; simpa using h3, h4⟩
theorem RepL.getV : ∀ {ds : List D} {xs : List V} {i : Nat} {v : V}, RepL K ω ds xs → xs[i]? = some v → ∃ d, ds[i]? = some d ∧ Rep K ω d v
  | [], xs, i, v, a, h => by
    have e : xs = [] := a
    rw [e] at h
    simp at h
  | e :: ds, xs, 0, v, a, h => by
    obtain ⟨x, t, e1, h1, h2⟩ := a
    rw [e1] at h
    have e2 : x = v := by simpa using h
    subst e2
    exact ⟨e, rfl, h1⟩
  | e :: ds, xs, i + 1, v, a, h => by
    obtain ⟨x, t, e1, h1, h2⟩ := a
    rw [e1] at h
    obtain ⟨d, h3, h4⟩ := RepL.getV (i := i) h2 (by simpa using h)
    exact ⟨d, by simpa using h3, h4⟩
theorem RepL.take : ∀ {ds : List D} {xs : List V} (n : Nat), RepL K ω ds xs → RepL K ω (ds.take n) (xs.take n)
  | _, _, 0, _ => by simp [RepL]
  | [], xs, n + 1, a => by
    have e : xs = [] := a
    rw [e]
    exact RepL.nil
  | d :: ds, xs, n + 1, a => by
    obtain ⟨x, t, e1, h1, h2⟩ := a
    rw [e1]
    exact ⟨x, t.take n, rfl, h1, RepL.take n h2⟩
theorem RepL.drop : ∀ {ds : List D} {xs : List V} (n : Nat), RepL K ω ds xs → RepL K ω (ds.drop n) (xs.drop n)
  | _, _, 0, a => a
  | [], xs, n + 1, a => by
    have e : xs = [] := a
    rw [e]
    exact RepL.nil
  | d :: ds, xs, n + 1, a => by
    obtain ⟨x, t, e1, h1, h2⟩ := a
    rw [e1]
    exact RepL.drop n h2
theorem RepL.set {d : D} {v : V} (r : Rep K ω d v) : ∀ {ds : List D} {xs : List V} (n : Nat), RepL K ω ds xs → RepL K ω (ds.set n d) (xs.set n v)
  | [], xs, n, a => by
    have e : xs = [] := a
    rw [e]
    exact RepL.nil
  | e :: ds, xs, 0, a => by
    obtain ⟨x, t, e1, h1, h2⟩ := a
    rw [e1]
    exact ⟨v, t, rfl, r, h2⟩
  | e :: ds, xs, n + 1, a => by
    obtain ⟨x, t, e1, h1, h2⟩ := a
    rw [e1]
    exact ⟨x, t.set n v, rfl, h1, RepL.set r n h2⟩
theorem RepL.reverse : ∀ {ds : List D} {xs : List V}, RepL K ω ds xs → RepL K ω ds.reverse xs.reverse
  | [], xs, a => by
    have e : xs = [] := a
    rw [e]
    exact RepL.nil
  | d :: ds, xs, a => by
    obtain ⟨x, t, e1, h1, h2⟩ := a
    rw [e1, List.reverse_cons, List.reverse_cons]
    exact RepL.append (RepL.reverse h2) (RepL.cons h1 RepL.nil)
theorem RepL.ints : ∀ (ns : List Int) {xs : List V}, RepL K ω (ns.map D.int) xs → xs = ns.map V.int
  | [], _, a => a
  | n :: ns, _, a => by
    obtain ⟨x, t, e1, h1, h2⟩ := a
    have h1 : x = .int n := h1
    rw [e1, h1, RepL.ints ns h2]
    rfl
theorem RepL.of_ints : ∀ (ns : List Int), RepL K ω (ns.map D.int) (ns.map V.int)
  | [] => rfl
  | n :: ns => ⟨.int n, ns.map V.int, rfl, rfl, RepL.of_ints ns⟩
theorem RepL.bls : ∀ (ns : List Bool) {xs : List V}, RepL K ω (ns.map D.bl) xs → xs = ns.map V.bl
  | [], _, a => a
  | n :: ns, _, a => by
    obtain ⟨x, t, e1, h1, h2⟩ := a
    have h1 : x = .bl n := h1
    rw [e1, h1, RepL.bls ns h2]
    rfl
theorem RepL.strs : ∀ (ns : List Str) {xs : List V}, RepL K ω (ns.map D.str) xs → xs = ns.map V.str
  | [], _, a => a
  | n :: ns, _, a => by
    obtain ⟨x, t, e1, h1, h2⟩ := a
    have h1 : x = .str n := h1
    rw [e1, h1, RepL.strs ns h2]
    rfl
theorem RepL.of_strs : ∀ (ns : List Str), RepL K ω (ns.map D.str) (ns.map V.str)
  | [] => rfl
  | n :: ns => ⟨.str n, ns.map V.str, rfl, rfl, RepL.of_strs ns⟩
end

/-! ### cells and the relation -/
def RepP {κ : Type} (K : PySem.W.Frag) (ω : Wd) : List (κ × D) → List (κ × V) → Prop := Paired fun p q => p.1 = q.1 ∧ Rep K ω p.2 q.2
theorem Paired.mapR {α β : Type} {F G : α → β → Prop} : ∀ {l₁ : List α} {l₂ : List β}, Paired F l₁ l₂ → (∀ a b, F a b → G a b) → Paired G l₁ l₂
  | _, _, .nil, _ => .nil
  | _, _, .cons r t, f => .cons (f _ _ r) (Paired.mapR t f)
theorem RepP.mono {κ : Type} {K : PySem.W.Frag} {ω ω' : Wd} (h : ω.le ω') {l : List (κ × D)} {m : List (κ × V)} (r : RepP K ω l m) : RepP K ω' l m :=
  Paired.mapR r fun p q z => ⟨z.1, Rep.mono h _ z.2⟩
def CellAt (K : PySem.W.Frag) (ω : Wd) (H : Hp) (a : Addr) : Cell → Prop
  | .lst ds => ∃ xs, H a = some (.lst xs) ∧ RepL K ω ds xs
  | .dK kvs => ∃ ks, H a = some (.dK ks) ∧ RepP K ω kvs ks
  | .ins C fs => ∃ dx gs, H a = some (.ins C dx gs) ∧ RepP K ω fs gs
  | .dead => ∃ o, ω.Hf a = some o
theorem CellAt.mono {K : PySem.W.Frag} {ω ω' : Wd} {H H' : Hp} {a : Addr} (h : ω.le ω') (e : ∀ o, H a = some o → H' a = some o) : ∀ {c : Cell}, CellAt K ω H a c → CellAt K ω' H' a c
  | .lst ds, ⟨xs, h1, h2⟩ => ⟨xs, e _ h1, RepL.mono h ds h2⟩
  | .dK kvs, ⟨ks, h1, h2⟩ => ⟨ks, e _ h1, h2.mono h⟩
  | .ins C fs, ⟨dx, gs, h1, h2⟩ => ⟨dx, gs, e _ h1, h2.mono h⟩
  | .dead, ⟨o, h1⟩ => ⟨o, h.2 _ _ h1⟩
theorem CellAt.there {K : PySem.W.Frag} {ω : Wd} {H : Hp} {a : Addr} {c : Cell} (s : Same ω.Hf H) (h : CellAt K ω H a c) : ∃ o, H a = some o := by
  cases c with
  | lst ds => obtain ⟨xs, h1, _⟩ := h; exact ⟨_, h1⟩
  | dK ds => obtain ⟨xs, h1, _⟩ := h; exact ⟨_, h1⟩
  | ins C ds => obtain ⟨dx, xs, h1, _⟩ := h; exact ⟨_, h1⟩
  | dead => obtain ⟨o, h1⟩ := h; exact ⟨o, s _ _ h1⟩

/-- the memory μ lies in H: φ tells where, Hf what is frozen, ρ what of others is held -/
structure Rm (K : PySem.W.Frag) (T : List (Addr × Str)) (ω : Wd) (ρ : Hp) (μ : Mem) (H : Hp) : Prop where
  same : Same ω.Hf H
  nd : ω.φ.Nodup
  len : ω.φ.length = μ.length
  cells : ∀ (n : Nat) (a : Addr) (c : Cell), ω.φ[n]? = some a → μ[n]? = some c → CellAt K ω H a c ∧ (c ≠ .dead → ω.Hf a = none)
  tab : LamX.Tabs T H
  fr : ∀ a o, ρ a = some o → H a = some o ∧ a ∉ ω.φ ∧ ω.Hf a = none
  nt : ∀ b ps, ω.Hf b ≠ some (.tbl ps) ∧ ρ b ≠ some (.tbl ps)
theorem nt_upd {H : Hp} {p : Addr} {xs : List V} {b : Addr} {ps : Array Value} (h : H b ≠ some (.tbl ps)) : upd H p (.lst xs) b ≠ some (.tbl ps) := fun z => by
  by_cases hb : b = p
  · subst hb
    rw [upd_same] at z
    cases z
  · rw [upd_ne hb] at z
    exact h z
theorem nt_ne {H : Hp} {p : Addr} {xs : List V} {b : Addr} {ps : Array Value} (n : H p = none) (h : upd H p (.lst xs) b ≠ some (.tbl ps)) : H b ≠ some (.tbl ps) := fun z => by
  have hb : b ≠ p := fun e => by rw [e, n] at z; cases z
  exact h (by rw [upd_ne hb]; exact z)
def EnvR (K : PySem.W.Frag) (ω : Wd) (ε : En) (σ : L2.St) : Prop :=
  ε.length = σ.length ∧ ∀ (i : Nat) d, ε[i]? = some (some d) → ∃ v, σ[i]? = some (some v) ∧ Rep K ω d v
theorem EnvR.mono {K : PySem.W.Frag} {ω ω' : Wd} {ε : En} {σ : L2.St} (h : ω.le ω') (e : EnvR K ω ε σ) : EnvR K ω' ε σ :=
  ⟨e.1, fun i d q => let ⟨v, a, b⟩ := e.2 i d q; ⟨v, a, Rep.mono h d b⟩⟩
theorem EnvR.set {K : PySem.W.Frag} {ω : Wd} {ε : En} {σ : L2.St} {d : D} {v : V} (e : EnvR K ω ε σ) (r : Rep K ω d v) (i : Nat) : EnvR K ω (ε.set i (some d)) (σ.set i (some v)) := by
  refine ⟨by simp [e.1], fun j x h => ?_⟩
  by_cases hj : j = i
  · subst hj
    have hl : j < ε.length := by
      have := (List.getElem?_eq_some_iff.mp h).1
      simpa using this
    rw [List.getElem?_set_self hl] at h
    have h' : d = x := by simpa using h
    subst h'
    exact ⟨v, by rw [List.getElem?_set_self (by rw [← e.1]; exact hl)], r⟩
  · rw [List.getElem?_set_ne (Ne.symm hj)] at h ⊢
    exact e.2 j x h
/-- forget a slot, or change what it stands for -/
theorem EnvR.setE {K : PySem.W.Frag} {ω : Wd} {ε : En} {σ : L2.St} {d : D} {v : V} (e : EnvR K ω ε σ) {i : Nat} (hv : σ[i]? = some (some v)) (r : Rep K ω d v) : EnvR K ω (ε.set i (some d)) σ := by
  refine ⟨by simp [e.1], fun j x h => ?_⟩
  by_cases hj : j = i
  · subst hj
    have hl : j < ε.length := by
      have := (List.getElem?_eq_some_iff.mp h).1
      simpa using this
    rw [List.getElem?_set_self hl] at h
    have h' : d = x := by simpa using h
    subst h'
    exact ⟨v, hv, r⟩
  · rw [List.getElem?_set_ne (Ne.symm hj)] at h
    exact e.2 j x h
structure R (K : PySem.W.Frag) (T : List (Addr × Str)) (ω : Wd) (ρ : Hp) (ε : En) (μ : Mem) (σ : L2.St) (H : Hp) : Prop where
  m : Rm K T ω ρ μ H
  e : EnvR K ω ε σ

section
variable {K : PySem.W.Frag} {T : List (Addr × Str)} {ω ω' : Wd} {ρ : Hp} {ε : En} {μ : Mem} {σ : L2.St} {H H' : Hp} {p a : Addr} {o : HO} {n : Nat}
theorem Rm.cell (r : Rm K T ω ρ μ H) {a : Addr} (h : a ∈ ω.φ) : ∃ (n : Nat) (c : Cell), ω.φ[n]? = some a ∧ μ[n]? = some c := by
  obtain ⟨n, hn, e⟩ := List.getElem_of_mem h
  have hm : n < μ.length := by rw [← r.len]; exact hn
  exact ⟨n, μ[n], by rw [List.getElem?_eq_getElem hn, e], List.getElem?_eq_getElem hm⟩
theorem Rm.new (r : Rm K T ω ρ μ H) (h : H p = none) : p ∉ ω.φ ∧ ω.Hf p = none ∧ ρ p = none := by
  refine ⟨fun hp => ?_, ?_, ?_⟩
  · obtain ⟨n, c, e1, e2⟩ := r.cell hp
    obtain ⟨o, e3⟩ := (r.cells n p c e1 e2).1.there r.same
    rw [h] at e3
    cases e3
  · cases q : ω.Hf p with
    | none => rfl
    | some o =>
      rw [r.same _ _ q] at h
      cases h
  · cases q : ρ p with
    | none => rfl
    | some o =>
      rw [(r.fr _ _ q).1] at h
      cases h
/-- all that is tracked stays -/
theorem Rm.ext (r : Rm K T ω ρ μ H) (e : Same H H') : Rm K T ω ρ μ H' :=
  ⟨fun b o q => e _ _ (r.same _ _ q), r.nd, r.len, fun n a c h1 h2 => ⟨(r.cells n a c h1 h2).1.mono (Wd.le.refl _) fun o q => e _ _ q, (r.cells n a c h1 h2).2⟩, r.tab.ext e, fun a o h => ⟨e _ _ (r.fr a o h).1, (r.fr a o h).2⟩, r.nt⟩
/-- tables may grow, new code objects may come -/
theorem Rm.extN (r : Rm K T ω ρ μ H) (e : LamX.ExtN H H') (t : LamX.Tabs T H') : Rm K T ω ρ μ H' := by
  have sm : ∀ b o, H b = some o → (∀ ps, o ≠ .tbl ps) → H' b = some o := e
  refine ⟨fun b o q => sm b o (r.same _ _ q) fun ps z => (r.nt b ps).1 (z ▸ q), r.nd, r.len, fun n a c h1 h2 => ⟨(r.cells n a c h1 h2).1.mono (Wd.le.refl _) fun o q => sm a o q fun ps z => ?_, (r.cells n a c h1 h2).2⟩, t,
    fun a o h => ⟨sm a o (r.fr a o h).1 fun ps z => (r.nt a ps).2 (z ▸ h), (r.fr a o h).2⟩, r.nt⟩
  have hc := (r.cells n a c h1 h2).1
  subst z
  cases c with
  | lst ds => obtain ⟨xs, h1, _⟩ := hc; rw [q] at h1; cases h1
  | dK ds => obtain ⟨xs, h1, _⟩ := hc; rw [q] at h1; cases h1
  | ins C ds => obtain ⟨dx, xs, h1, _⟩ := hc; rw [q] at h1; cases h1
  | dead =>
    obtain ⟨o, h1⟩ := hc
    have := r.same _ _ h1
    rw [q] at this
    cases this
    exact (r.nt a ps).1 h1
theorem same_new {H : Hp} {p : Addr} {o : HO} (h : H p = none) : Same H (upd H p o) := fun b x e => by
  rw [upd_ne (ne_of_none e h)]
  exact e
/-- a new thing, left alone -/
theorem Rm.skip (r : Rm K T ω ρ μ H) (h : H p = none) : Rm K T ω ρ μ (upd H p o) := r.ext (same_new h)
/-- a new thing, frozen at once -/
theorem Rm.froze (r : Rm K T ω ρ μ H) (h : H p = none) (no : ∀ ps, o ≠ .tbl ps := by intro _ z; cases z) : ω.le ⟨ω.φ, upd ω.Hf p o⟩ ∧ Rm K T ⟨ω.φ, upd ω.Hf p o⟩ ρ μ (upd H p o) := by
  obtain ⟨n1, n2, n3⟩ := r.new h
  have le : ω.le ⟨ω.φ, upd ω.Hf p o⟩ := ⟨List.prefix_refl _, same_new n2⟩
  have sm : Same H (upd H p o) := same_new h
  refine ⟨le, ⟨fun b x q => ?_, r.nd, r.len, fun n a c h1 h2 => ?_, r.tab.ext sm, fun a x q => ?_, fun b ps => ⟨fun z => ?_, (r.nt b ps).2⟩⟩⟩
  rotate_left 3
  · by_cases hb : b = p
    · subst hb
      have z' : upd ω.Hf b o b = some (.tbl ps) := z
      rw [upd_same] at z'
      exact no ps (Option.some.inj z')
    · have z' : upd ω.Hf p o b = some (.tbl ps) := z
      rw [upd_ne hb] at z'
      exact (r.nt b ps).1 z'
  · by_cases hb : b = p
    · subst hb
      have q' : upd ω.Hf b o b = some x := q
      rw [upd_same] at q' ⊢
      exact q'
    · have q' : upd ω.Hf p o b = some x := q
      rw [upd_ne hb] at q' ⊢
      exact r.same _ _ q'
  · obtain ⟨c1, c2⟩ := r.cells n a c h1 h2
    refine ⟨c1.mono le fun o q => sm _ _ q, fun hd => ?_⟩
    have na : a ≠ p := fun z => n1 (z ▸ List.mem_of_getElem? h1)
    show upd ω.Hf p o a = none
    rw [upd_ne na]
    exact c2 hd
  · obtain ⟨f1, f2, f3⟩ := r.fr a x q
    have na : a ≠ p := ne_of_none f1 h
    refine ⟨sm _ _ f1, f2, ?_⟩
    show upd ω.Hf p o a = none
    rw [upd_ne na]
    exact f3
/-- a new thing becomes a cell -/
theorem Rm.alloc (r : Rm K T ω ρ μ H) (h : H p = none) {c : Cell} (hc : c ≠ .dead) (at_ : ∀ ω', ω.le ω' → CellAt K ω' (upd H p o) p c) :
    ω.le ⟨ω.φ ++ [p], ω.Hf⟩ ∧ Rm K T ⟨ω.φ ++ [p], ω.Hf⟩ ρ (μ ++ [c]) (upd H p o) ∧ (ω.φ ++ [p])[μ.length]? = some p := by
  obtain ⟨n1, n2, n3⟩ := r.new h
  have le : ω.le ⟨ω.φ ++ [p], ω.Hf⟩ := ⟨List.prefix_append _ _, Same.refl _⟩
  have sm : Same H (upd H p o) := same_new h
  have hl : ω.φ.length = μ.length := r.len
  refine ⟨le, ⟨fun b x q => sm _ _ (r.same _ _ q), ?_, by simp [hl], fun n a c' h1 h2 => ?_, r.tab.ext sm, fun a x q => ?_, r.nt⟩, by rw [← hl]; simp⟩
  · show (ω.φ ++ [p]).Nodup
    rw [List.nodup_append]
    refine ⟨r.nd, by simp, fun x hx y hy => ?_⟩
    have e : y = p := by simpa using hy
    subst e
    exact fun z => n1 (z ▸ hx)
  · have h1 : (ω.φ ++ [p])[n]? = some a := h1
    by_cases hn : n < ω.φ.length
    · rw [List.getElem?_append_left hn] at h1
      rw [List.getElem?_append_left (by omega)] at h2
      obtain ⟨c1, c2⟩ := r.cells n a c' h1 h2
      exact ⟨c1.mono le fun o q => sm _ _ q, c2⟩
    · rw [List.getElem?_append_right (by omega)] at h1
      rw [List.getElem?_append_right (by omega)] at h2
      have e0 : n - ω.φ.length = 0 := by
        have := (List.getElem?_eq_some_iff.mp h1).1
        simp at this
        omega
      rw [e0] at h1
      rw [show n - μ.length = 0 by omega] at h2
      have e1 : p = a := by simpa using h1
      have e2 : c = c' := by simpa using h2
      subst e1 e2
      exact ⟨at_ _ le, fun _ => n2⟩
  · obtain ⟨f1, f2, f3⟩ := r.fr a x q
    refine ⟨sm _ _ f1, fun z => ?_, f3⟩
    rcases List.mem_append.mp z with z | z
    · exact f2 z
    · have e : a = p := by simpa using z
      exact ne_of_none f1 h e
theorem tabs_upd {T : List (Addr × Str)} {H : Hp} {a : Addr} {o u : HO} (t : LamX.Tabs T H) (h : H a = some o) (h1 : ∀ ps, o ≠ .tbl ps) (h2 : ∀ φ, o ≠ .ext φ) : LamX.Tabs T (upd H a u) := fun p hp => by
  obtain ⟨ps, e1, e2, e3⟩ := t p hp
  have np : p.1 ≠ a := fun z => by
    rw [z, h] at e1
    exact h1 ps (Option.some.inj e1)
  refine ⟨ps, by rw [upd_ne np]; exact e1, e2, fun pos cv q => ?_⟩
  obtain ⟨c, e4, e5⟩ := e3 pos cv q
  have nc : c ≠ a := fun z => by
    rw [z, h] at e5
    exact h2 _ (Option.some.inj e5)
  exact ⟨c, e4, by rw [upd_ne nc]; exact e5⟩
/-- a cell is written -/
theorem Rm.write (r : Rm K T ω ρ μ H) (hn : ω.φ[n]? = some a) {c c' : Cell} (hc : μ[n]? = some c) (hd : c ≠ .dead) (hd' : c' ≠ .dead) {u : HO} (ho : H a = some u) (h1 : ∀ ps, u ≠ .tbl ps) (h2 : ∀ φ, u ≠ .ext φ)
    (at_ : CellAt K ω (upd H a o) a c') : Rm K T ω ρ (μ.set n c') (upd H a o) := by
  have na : ω.Hf a = none := (r.cells n a c hn hc).2 hd
  refine ⟨fun b x q => ?_, r.nd, by simp [r.len], fun m b d h3 h4 => ?_, tabs_upd r.tab ho h1 h2, fun b x q => ?_, r.nt⟩
  · rw [upd_ne (ne_of_none q na)]
    exact r.same _ _ q
  · by_cases hm : m = n
    · subst hm
      rw [List.getElem?_set_self (List.getElem?_eq_some_iff.mp hc).1] at h4
      have e1 : c' = d := by simpa using h4
      rw [hn] at h3
      have e2 : a = b := by simpa using h3
      subst e1 e2
      exact ⟨at_, fun _ => na⟩
    · rw [List.getElem?_set_ne (Ne.symm hm)] at h4
      obtain ⟨c1, c2⟩ := r.cells m b d h3 h4
      have nb : b ≠ a := fun z => by
        subst z
        obtain ⟨l1, e1⟩ := List.getElem?_eq_some_iff.mp h3
        obtain ⟨l2, e2⟩ := List.getElem?_eq_some_iff.mp hn
        exact hm ((List.getElem_inj r.nd).mp (e1.trans e2.symm))
      exact ⟨c1.mono (Wd.le.refl _) fun o q => by rw [upd_ne nb]; exact q, c2⟩
  · obtain ⟨f1, f2, f3⟩ := r.fr b x q
    have nb : b ≠ a := fun z => f2 (z ▸ List.mem_of_getElem? hn)
    exact ⟨by rw [upd_ne nb]; exact f1, f2, f3⟩
/-- a list cell is frozen -/
theorem Rm.freeze (r : Rm K T ω ρ μ H) (hn : ω.φ[n]? = some a) {ds : List D} (hc : μ[n]? = some (.lst ds)) :
    ∃ ω', ω.le ω' ∧ Rm K T ω' ρ (μ.set n .dead) H ∧ Rep K ω' (.lst ds) (.ref a) := by
  obtain ⟨⟨xs, h1, h2⟩, na⟩ := r.cells n a _ hn hc
  have na : ω.Hf a = none := na (by intro z; cases z)
  have le : ω.le ⟨ω.φ, upd ω.Hf a (.lst xs)⟩ := ⟨List.prefix_refl _, same_new na⟩
  refine ⟨⟨ω.φ, upd ω.Hf a (.lst xs)⟩, le, ⟨fun b x q => ?_, r.nd, by simp [r.len], fun m b d h3 h4 => ?_, r.tab, fun b x q => ?_, fun b ps => ⟨fun z => ?_, (r.nt b ps).2⟩⟩, ⟨a, xs, rfl, upd_same, RepL.mono le ds h2⟩⟩
  rotate_left 3
  · by_cases hb : b = a
    · subst hb
      have z' : upd ω.Hf b (.lst xs) b = some (.tbl ps) := z
      rw [upd_same] at z'
      cases z'
    · have z' : upd ω.Hf a (.lst xs) b = some (.tbl ps) := z
      rw [upd_ne hb] at z'
      exact (r.nt b ps).1 z'
  · by_cases hb : b = a
    · subst hb
      have q' : upd ω.Hf b (.lst xs) b = some x := q
      rw [upd_same] at q'
      cases q'
      exact h1
    · have q' : upd ω.Hf a (.lst xs) b = some x := q
      rw [upd_ne hb] at q'
      exact r.same _ _ q'
  · by_cases hm : m = n
    · subst hm
      rw [List.getElem?_set_self (List.getElem?_eq_some_iff.mp hc).1] at h4
      have e1 : Cell.dead = d := by simpa using h4
      have h3 : ω.φ[m]? = some b := h3
      rw [hn] at h3
      have e2 : a = b := by simpa using h3
      subst e1 e2
      exact ⟨⟨_, upd_same⟩, fun z => absurd rfl z⟩
    · rw [List.getElem?_set_ne (Ne.symm hm)] at h4
      obtain ⟨c1, c2⟩ := r.cells m b d h3 h4
      have nb : b ≠ a := fun z => by
        subst z
        obtain ⟨l1, e1⟩ := List.getElem?_eq_some_iff.mp h3
        obtain ⟨l2, e2⟩ := List.getElem?_eq_some_iff.mp hn
        exact hm ((List.getElem_inj r.nd).mp (e1.trans e2.symm))
      exact ⟨c1.mono le fun o q => q, fun z => by show upd ω.Hf a (.lst xs) b = none; rw [upd_ne nb]; exact c2 z⟩
  · obtain ⟨f1, f2, f3⟩ := r.fr b x q
    have nb : b ≠ a := fun z => f2 (z ▸ List.mem_of_getElem? hn)
    exact ⟨f1, f2, by show upd ω.Hf a (.lst xs) b = none; rw [upd_ne nb]; exact f3⟩
/-- the content of a list, frozen or a cell -/
def lview (μ : Mem) : D → Option (List D)
  | .lst ds => some ds
  | .fl ds => some ds
  | .ref n => match μ[n]? with
    | some (.lst ds) => some ds
    | _ => none
  | _ => none
theorem Rm.list (r : Rm K T ω ρ μ H) {d : D} {v : V} {ds : List D} (h : Rep K ω d v) (l : lview μ d = some ds) : ∃ a xs, v = .ref a ∧ SqL K H a xs ∧ RepL K ω ds xs := by
  cases d with
  | lst es =>
    obtain ⟨a, xs, e, s, q⟩ := h
    have e1 : es = ds := Option.some.inj l
    subst e1
    exact ⟨a, xs, e, .inl (.inl (r.same _ _ s)), q⟩
  | fl es =>
    obtain ⟨a, xs, e, s, q⟩ := h
    have e1 : es = ds := Option.some.inj l
    subst e1
    exact ⟨a, xs, e, r.same.seq s, q⟩
  | ref n =>
    obtain ⟨a, e, f⟩ := h
    have l : (match μ[n]? with | some (.lst ds) => some ds | _ => none) = some ds := l
    split at l
    · rename_i m es hm
      cases l
      obtain ⟨⟨xs, h1, h2⟩, _⟩ := r.cells _ a _ e hm
      exact ⟨a, xs, f, .inl (.inl h1), h2⟩
    · cases l
  | _ => cases l
/-- .. of an own one -/
def lviewM (μ : Mem) : D → Option (List D)
  | .lst ds => some ds
  | .ref n => match μ[n]? with
    | some (.lst ds) => some ds
    | _ => none
  | _ => none
theorem Rm.listM (r : Rm K T ω ρ μ H) {d : D} {v : V} {ds : List D} (h : Rep K ω d v) (l : lviewM μ d = some ds) : ∃ a xs, v = .ref a ∧ H a = some (.lst xs) ∧ RepL K ω ds xs := by
  cases d with
  | lst es =>
    obtain ⟨a, xs, e, s, q⟩ := h
    have e1 : es = ds := Option.some.inj l
    subst e1
    exact ⟨a, xs, e, r.same _ _ s, q⟩
  | ref n =>
    obtain ⟨a, e, f⟩ := h
    have l : (match μ[n]? with | some (.lst ds) => some ds | _ => none) = some ds := l
    split at l
    · rename_i m es hm
      cases l
      obtain ⟨⟨xs, h1, h2⟩, _⟩ := r.cells _ a _ e hm
      exact ⟨a, xs, f, h1, h2⟩
    · cases l
  | _ => cases l
end
end WL
/-! The W layer, part 2: readings over the abstract memory, the rules for expressions. -/
namespace WL
open PySem PySem.Spec L2

abbrev WE := En → Mem → (D → En → Mem → Prop) → Prop
abbrev WT := En → Mem → (Bool → En → Mem → Prop) → Prop
abbrev WA := En → Mem → (List D → En → Mem → Prop) → Prop
abbrev WO := En → Mem → (Option Int → En → Mem → Prop) → Prop
abbrev WG := D → En → Mem → (En → Mem → Prop) → Prop
structure WK where
  nx : En → Mem → Prop
  rt : D → Mem → Prop
  bk : En → Mem → Prop := fun _ _ => False
  ct : En → Mem → Prop := fun _ _ => False
abbrev WS := WK → En → Mem → Prop

section
variable (K : PySem.W.Frag) (T : List (Addr × Str))
def tE (w : WE) : TE := fun σ H Q => ∃ ω ρ ε μ k, R K T ω ρ ε μ σ H ∧ w ε μ k ∧ ∀ ω' ε' μ' d v H', ω.le ω' → R K T ω' ρ ε' μ' σ H' → Rep K ω' d v → k d ε' μ' → Q v H'
def tT (w : WT) : TT := fun σ H Q => ∃ ω ρ ε μ k, R K T ω ρ ε μ σ H ∧ w ε μ k ∧ ∀ ω' ε' μ' b H', ω.le ω' → R K T ω' ρ ε' μ' σ H' → k b ε' μ' → Q b H'
def tA (w : WA) : TA := fun σ H Q => ∃ ω ρ ε μ k, R K T ω ρ ε μ σ H ∧ w ε μ k ∧ ∀ ω' ε' μ' ds vs H', ω.le ω' → R K T ω' ρ ε' μ' σ H' → RepL K ω' ds vs → k ds ε' μ' → Q vs H'
def tO (w : WO) : TO := fun σ H Q => ∃ ω ρ ε μ k, R K T ω ρ ε μ σ H ∧ w ε μ k ∧ ∀ ω' ε' μ' o H', ω.le ω' → R K T ω' ρ ε' μ' σ H' → k o ε' μ' → Q o H'
def tGt (w : WG) : TG := fun v σ H Q => ∃ ω ρ ε μ k d, R K T ω ρ ε μ σ H ∧ Rep K ω d v ∧ w d ε μ k ∧ ∀ ω' ε' μ' σ' H', ω.le ω' → R K T ω' ρ ε' μ' σ' H' → k ε' μ' → Q σ' H'
def tS (w : WS) : TS := fun D σ H => ∃ ω ρ ε μ k, R K T ω ρ ε μ σ H ∧ w k ε μ ∧ (∀ ω' ε' μ' σ' H', ω.le ω' → R K T ω' ρ ε' μ' σ' H' → k.nx ε' μ' → D.nx σ' H') ∧
  (∀ ω' μ' d v H', ω.le ω' → Rm K T ω' ρ μ' H' → Rep K ω' d v → k.rt d μ' → D.rt v H') ∧
  (∀ ω' ε' μ' σ' H', ω.le ω' → R K T ω' ρ ε' μ' σ' H' → k.bk ε' μ' → D.bk σ' H') ∧ (∀ ω' ε' μ' σ' H', ω.le ω' → R K T ω' ρ ε' μ' σ' H' → k.ct ε' μ' → D.ct σ' H')
end
/-- an expression reads as w, .. -/
def EW (T : List (Addr × Str)) (X : Cx) (e : Expr) (w : WE) : Prop := PE X e (tE X.K T w)
def TW (T : List (Addr × Str)) (X : Cx) (e : Expr) (w : WT) : Prop := PT X e (tT X.K T w)
def PWW (T : List (Addr × Str)) (X : Cx) (e : Expr) (w : WT) : Prop := PW X e (tT X.K T w)
def AW (T : List (Addr × Str)) (X : Cx) (es : List Expr) (w : WA) : Prop := PA X es (tA X.K T w)
def OW (T : List (Addr × Str)) (X : Cx) (e : Option Expr) (w : WO) : Prop := PO X e (tO X.K T w)
def GW (T : List (Addr × Str)) (X : Cx) (e : Expr) (w : WG) : Prop := PG X e (tGt X.K T w)
def SW (T : List (Addr × Str)) (X : Cx) (st : Stmt) (w : WS) : Prop := PS X st (tS X.K T w)
def BW (T : List (Addr × Str)) (X : Cx) (st : List Stmt) (w : WS) : Prop := PSs X st (tS X.K T w)

section
variable {X : Cx} {e : Expr} {es : List Expr} {st : Stmt} {sts : List Stmt}
theorem PE.to {t t' : TE} (h : PE X e t') (i : ∀ σ H Q, t σ H Q → t' σ H Q) : PE X e t := ⟨fun pins s σ H Q I q => h.run pins s σ H Q I (i σ H Q q)⟩
theorem PT.to {t t' : TT} (h : PT X e t') (i : ∀ σ H Q, t σ H Q → t' σ H Q) : PT X e t := ⟨fun pins s σ H Q I q => h.run pins s σ H Q I (i σ H Q q)⟩
theorem PW.to {t t' : TT} (h : PW X e t') (i : ∀ σ H Q, t σ H Q → t' σ H Q) : PW X e t := ⟨fun wh pins s σ H Q I q => h.run wh pins s σ H Q I (i σ H Q q)⟩
theorem PA.to {t t' : TA} (h : PA X es t') (i : ∀ σ H Q, t σ H Q → t' σ H Q) : PA X es t := ⟨fun pos pins s σ H Q I q => h.run pos pins s σ H Q I (i σ H Q q)⟩
theorem PO.to {o : Option Expr} {t t' : TO} (h : PO X o t') (i : ∀ σ H Q, t σ H Q → t' σ H Q) : PO X o t := ⟨fun pins s σ H Q I q => h.run pins s σ H Q I (i σ H Q q)⟩
theorem PG.to {t t' : TG} (h : PG X e t') (i : ∀ v σ H Q, t v σ H Q → t' v σ H Q) : PG X e t := ⟨fun pins s σ H v u Q I r q => h.run pins s σ H v u Q I r (i v σ H Q q)⟩
theorem PS.to {t t' : TS} (h : PS X st t') (i : ∀ D σ H, t D σ H → t' D σ H) : PS X st t := ⟨fun pins s σ H D I q => h.run pins s σ H D I (i D σ H q)⟩
theorem PSs.to {t t' : TS} (h : PSs X sts t') (i : ∀ D σ H, t D σ H → t' D σ H) : PSs X sts t := ⟨fun pins s σ H D I q => h.run pins s σ H D I (i D σ H q)⟩
end

/-! ### names, constants -/
def wVar (i : Nat) : WE := fun ε μ k => match ε[i]? with
  | some (some d) => k d ε μ
  | _ => False
/-- a name whose list is frozen from now on -/
def wFrz (i : Nat) : WE := fun ε μ k => match ε[i]? with
  | some (some (.ref n)) => (match μ[n]? with
    | some (.lst ds) => k (.lst ds) (ε.set i (some (.lst ds))) (μ.set n .dead)
    | _ => k (.ref n) ε μ)
  | some (some d) => k d ε μ
  | _ => False
def wC (d : D) : WE := fun ε μ k => k d ε μ
section
variable {T : List (Addr × Str)} {X : Cx} {pos : Pos}
theorem e_var (i : Nat) {x : Str} (hN : X.N[i]? = some x := by rfl) (hv : Vis X.env.scope x := by first | exact Or.inl rfl | exact Or.inr (Or.inl rfl) | exact Or.inr (Or.inr rfl)) (hd : (x == ("__debug__" : Str)) = false := by decide)
    (hcd : (x == ("__classdict__" : Str)) = false := by decide) : EW T X (.Name x pos) (wVar i) := by
  refine PE.to (pe_var hN hv hd hcd) fun σ H Q h => ?_
  obtain ⟨ω, ρ, ε, μ, k, r, h, q⟩ := h
  unfold wVar at h
  split at h
  · rename_i d hd
    obtain ⟨v, e1, e2⟩ := r.e.2 i d hd
    exact ⟨v, e1, q ω ε μ d v H (Wd.le.refl _) r e2 h⟩
  · exact h.elim
theorem e_frz (i : Nat) {x : Str} (hN : X.N[i]? = some x := by rfl) (hv : Vis X.env.scope x := by first | exact Or.inl rfl | exact Or.inr (Or.inl rfl) | exact Or.inr (Or.inr rfl)) (hd : (x == ("__debug__" : Str)) = false := by decide)
    (hcd : (x == ("__classdict__" : Str)) = false := by decide) : EW T X (.Name x pos) (wFrz i) := by
  refine PE.to (pe_var hN hv hd hcd) fun σ H Q h => ?_
  obtain ⟨ω, ρ, ε, μ, k, r, h, q⟩ := h
  unfold wFrz at h
  split at h
  · rename_i n hd
    obtain ⟨v, e1, e2⟩ := r.e.2 i _ hd
    split at h
    · rename_i ds hm
      obtain ⟨a, e3, e4⟩ := id e2
      obtain ⟨ω', le, m', rp⟩ := r.m.freeze e3 hm
      rw [← e4] at rp
      exact ⟨v, e1, q ω' _ _ _ v H le ⟨m', (r.e.mono le).setE e1 rp⟩ rp h⟩
    · exact ⟨v, e1, q ω ε μ _ v H (Wd.le.refl _) r e2 h⟩
  · rename_i d hn hd
    obtain ⟨v, e1, e2⟩ := r.e.2 i d hd
    exact ⟨v, e1, q ω ε μ d v H (Wd.le.refl _) r e2 h⟩
  · exact h.elim
theorem e_const {v : V} {d : D} {e : Expr} (h : PE X e (tC v)) (r : ∀ ω, Rep X.K ω d v) : EW T X e (wC d) := by
  refine PE.to h fun σ H Q h => ?_
  obtain ⟨ω, ρ, ε, μ, k, rr, h, q⟩ := h
  exact q ω ε μ d v H (Wd.le.refl _) rr (r ω) h
theorem e_int {i : Int} {j : Nat} : EW T X (.Constant (.int i) j pos) (wC (.int i)) := e_const pe_int fun _ => rfl
theorem e_bl {b : Bool} {j : Nat} : EW T X (.Constant (.bool b) j pos) (wC (.bl b)) := e_const pe_bl fun _ => rfl
theorem e_non {j : Nat} : EW T X (.Constant .none j pos) (wC .non) := e_const pe_non fun _ => rfl
theorem e_str {x : Str} {j : Nat} : EW T X (.Constant (.str x) j pos) (wC (.str x)) := e_const pe_str fun _ => rfl
/-- a def, a class, as a value -/
theorem e_glb {x : Str} {a : Addr} (hg : Gl X x) (hm : X.mg x = some (.ref a)) (hd : (x == ("__debug__" : Str)) = false := by decide) : EW T X (.Name x pos) (wC (.glb a)) :=
  e_const (pe_glob (v := .ref a) hg hm rfl hd) fun _ => rfl
/-- a number or text of the top -/
theorem e_gint {x : Str} {i : Int} {t : Tok} (hg : Gl X x) (hm : X.mg x = some (.int i t)) (hd : (x == ("__debug__" : Str)) = false := by decide) : EW T X (.Name x pos) (wC (.int i)) :=
  e_const (pe_glob (v := .int i) hg hm ⟨t, rfl⟩ hd) fun _ => rfl
theorem e_gstr {x : Str} {z : Str} {t : Tok} (hg : Gl X x) (hm : X.mg x = some (.str z t)) (hd : (x == ("__debug__" : Str)) = false := by decide) : EW T X (.Name x pos) (wC (.str z)) :=
  e_const (pe_glob (v := .str z) hg hm ⟨t, rfl⟩ hd) fun _ => rfl
end

/-! ### operations on values -/
abbrev RO := Mem → D → D → (D → Prop) → Prop
abbrev CO := Mem → List D → (D → Prop) → Prop
abbrev UO := Mem → D → (D → Prop) → Prop
section
variable (K : PySem.W.Frag) (T : List (Addr × Str))
def ROk (r : R2) (ro : RO) : Prop := ∀ (ω : Wd) (ρ : Hp) (μ : Mem) (H : Hp) (x y : D) (vx vy : V) (k : D → Prop) (Q : VK), Rm K T ω ρ μ H → Rep K ω x vx → Rep K ω y vy → ro μ x y k →
  (∀ ω' z vz H', ω.le ω' → Rm K T ω' ρ μ H' → Rep K ω' z vz → k z → Q vz H') → r vx vy H Q
def COk (r : List V → Hp → VK → Prop) (ro : CO) : Prop := ∀ (ω : Wd) (ρ : Hp) (μ : Mem) (H : Hp) (xs : List D) (vs : List V) (k : D → Prop) (Q : VK), Rm K T ω ρ μ H → RepL K ω xs vs → ro μ xs k →
  (∀ ω' z vz H', ω.le ω' → Rm K T ω' ρ μ H' → Rep K ω' z vz → k z → Q vz H') → r vs H Q
def UOk (r : V → Hp → VK → Prop) (ro : UO) : Prop := ∀ (ω : Wd) (ρ : Hp) (μ : Mem) (H : Hp) (x : D) (vx : V) (k : D → Prop) (Q : VK), Rm K T ω ρ μ H → Rep K ω x vx → ro μ x k →
  (∀ ω' z vz H', ω.le ω' → Rm K T ω' ρ μ H' → Rep K ω' z vz → k z → Q vz H') → r vx H Q
def MOk (r : V → List V → Hp → VK → Prop) (ro : Mem → D → List D → (D → Prop) → Prop) : Prop := ∀ (ω : Wd) (ρ : Hp) (μ : Mem) (H : Hp) (x : D) (xs : List D) (vx : V) (vs : List V) (k : D → Prop) (Q : VK), Rm K T ω ρ μ H → Rep K ω x vx → RepL K ω xs vs → ro μ x xs k →
  (∀ ω' z vz H', ω.le ω' → Rm K T ω' ρ μ H' → Rep K ω' z vz → k z → Q vz H') → r vx vs H Q
end
def wOp (ro : RO) (wa wb : WE) : WE := fun ε μ k => wa ε μ fun x ε1 μ1 => wb ε1 μ1 fun y ε2 μ2 => ro μ2 x y fun z => k z ε2 μ2
def wUn (ro : UO) (wa : WE) : WE := fun ε μ k => wa ε μ fun x ε1 μ1 => ro μ1 x fun z => k z ε1 μ1
def wCB (ro : CO) (wa : WA) : WE := fun ε μ k => wa ε μ fun xs ε1 μ1 => ro μ1 xs fun z => k z ε1 μ1
def wNil : WA := fun ε μ k => k [] ε μ
def wCons (wa : WE) (wr : WA) : WA := fun ε μ k => wa ε μ fun x ε1 μ1 => wr ε1 μ1 fun xs ε2 μ2 => k (x :: xs) ε2 μ2
section
variable {K : PySem.W.Frag} {T : List (Addr × Str)}
theorem tOp_of {r : R2} {ro : RO} {wa wb : WE} (hc : ROk K T r ro) {σ : L2.St} {H : Hp} {Q : VK} (h : tE K T (wOp ro wa wb) σ H Q) : tOp r (tE K T wa) (tE K T wb) σ H Q := by
  obtain ⟨ω, ρ, ε, μ, k, rr, h, q⟩ := h
  refine ⟨ω, ρ, ε, μ, _, rr, h, fun ω1 ε1 μ1 x vx H1 le1 r1 rx h1 => ?_⟩
  refine ⟨ω1, ρ, ε1, μ1, _, r1, h1, fun ω2 ε2 μ2 y vy H2 le2 r2 ry h2 => ?_⟩
  refine hc ω2 ρ μ2 H2 x y vx vy _ Q r2.m (Rep.mono le2 x rx) ry h2 fun ω3 z vz H3 le3 r3 rz h3 => ?_
  exact q ω3 ε2 μ2 z vz H3 (le1.trans (le2.trans le3)) ⟨r3, r2.e.mono le3⟩ rz h3
theorem tUn_of {r : V → Hp → VK → Prop} {ro : UO} {wa : WE} (hc : UOk K T r ro) {σ : L2.St} {H : Hp} {Q : VK} (h : tE K T (wUn ro wa) σ H Q) : tUn r (tE K T wa) σ H Q := by
  obtain ⟨ω, ρ, ε, μ, k, rr, h, q⟩ := h
  refine ⟨ω, ρ, ε, μ, _, rr, h, fun ω1 ε1 μ1 x vx H1 le1 r1 rx h1 => ?_⟩
  refine hc ω1 ρ μ1 H1 x vx _ Q r1.m rx h1 fun ω3 z vz H3 le3 r3 rz h3 => ?_
  exact q ω3 ε1 μ1 z vz H3 (le1.trans le3) ⟨r3, r1.e.mono le3⟩ rz h3
theorem tCB_of {r : List V → Hp → VK → Prop} {ro : CO} {wa : WA} (hc : COk K T r ro) {σ : L2.St} {H : Hp} {Q : VK} (h : tE K T (wCB ro wa) σ H Q) : tCB r (tA K T wa) σ H Q := by
  obtain ⟨ω, ρ, ε, μ, k, rr, h, q⟩ := h
  refine ⟨ω, ρ, ε, μ, _, rr, h, fun ω1 ε1 μ1 x vx H1 le1 r1 rx h1 => ?_⟩
  refine hc ω1 ρ μ1 H1 x vx _ Q r1.m rx h1 fun ω3 z vz H3 le3 r3 rz h3 => ?_
  exact q ω3 ε1 μ1 z vz H3 (le1.trans le3) ⟨r3, r1.e.mono le3⟩ rz h3
theorem tCons_of {wa : WE} {wr : WA} {σ : L2.St} {H : Hp} {Q : List V → Hp → Prop} (h : tA K T (wCons wa wr) σ H Q) : tCons (tE K T wa) (tA K T wr) σ H Q := by
  obtain ⟨ω, ρ, ε, μ, k, rr, h, q⟩ := h
  refine ⟨ω, ρ, ε, μ, _, rr, h, fun ω1 ε1 μ1 x vx H1 le1 r1 rx h1 => ?_⟩
  refine ⟨ω1, ρ, ε1, μ1, _, r1, h1, fun ω2 ε2 μ2 y vy H2 le2 r2 ry h2 => ?_⟩
  exact q ω2 ε2 μ2 (x :: y) (vx :: vy) H2 (le1.trans le2) r2 (RepL.cons (Rep.mono le2 x rx) ry) h2
theorem tNil_of {σ : L2.St} {H : Hp} {Q : List V → Hp → Prop} (h : tA K T wNil σ H Q) : tNil σ H Q := by
  obtain ⟨ω, ρ, ε, μ, k, rr, h, q⟩ := h
  exact q ω ε μ [] [] H (Wd.le.refl _) rr RepL.nil h
theorem ROk.or {r r' : R2} {ro : RO} (h : ROk K T r ro) : ROk K T (fun x y H Q => r x y H Q ∨ r' x y H Q) ro := fun ω ρ μ H x y vx vy k Q a b c d e => .inl (h ω ρ μ H x y vx vy k Q a b c d e)
end
section
variable {T : List (Addr × Str)} {X : Cx} {pos : Pos} {a b c e : Expr} {es : List Expr} {wa wb wc : WE} {wt : WA} {ta tb : WT}
theorem e_op {op : Operator} {r : R2} {ro : RO} (ho : OpR X (binaryOp op) r) (hc : ROk X.K T r ro) (ha : EW T X a wa) (hb : EW T X b wb) : EW T X (.BinOp a op b pos) (wOp ro wa wb) :=
  PE.to (pe_op ho ha hb) fun _ _ _ h => tOp_of hc h
theorem e_un {op : UnaryOp} {r : V → Hp → VK → Prop} {ro : UO} (ho : UnR X (unaryOp op) r) (hc : UOk X.K T r ro) (ha : EW T X a wa) : EW T X (.UnaryOp op a pos) (wUn ro wa) :=
  PE.to (pe_un ho ha) fun _ _ _ h => tUn_of hc h
theorem e_cmp {op : CmpOp} {r : R2} {ro : RO} (ho : OpR X (compareOp op) r) (hc : ROk X.K T r ro) (ha : EW T X a wa) (hb : EW T X b wb) (hm : behindInMarks op b = false := by first | exact nomark _ | rfl) : EW T X (.Compare a [op] [b] pos) (wOp ro wa wb) :=
  PE.to (pe_cmpR ho ha hb hm) fun _ _ _ h => tOp_of hc h
theorem e_ix {r : R2} {ro : RO} (ho : IxR X r) (hc : ROk X.K T r ro) (ha : EW T X a wa) (hb : EW T X b wb) (hs : PlainIx b := by exact fun _ _ => rfl) : EW T X (.Subscript a b pos) (wOp ro wa wb) :=
  PE.to (pe_ix ho ha hb hs) fun _ _ _ h => tOp_of hc h
/-- a test whose value is a bool -/
def wTest (w : WE) : WT := fun ε μ k => w ε μ fun d ε1 μ1 => match d with
  | .bl b => k b ε1 μ1
  | _ => False
theorem tTest_of {K : PySem.W.Frag} {w : WE} {σ : L2.St} {H : Hp} {Q : Bool → Hp → Prop} (h : tT K T (wTest w) σ H Q) : tTest (tE K T w) σ H Q := by
  obtain ⟨ω, ρ, ε, μ, k, rr, h, q⟩ := h
  refine ⟨ω, ρ, ε, μ, _, rr, h, fun ω1 ε1 μ1 x vx H1 le1 r1 rx h1 => ?_⟩
  split at h1
  · rename_i b
    exact ⟨b, rx, q ω1 ε1 μ1 b H1 le1 r1 h1⟩
  · exact h1.elim
theorem tTest_imp {t t' : TE} (i : ∀ σ H Q, t σ H Q → t' σ H Q) {σ : L2.St} {H : Hp} {Q : Bool → Hp → Prop} (h : tTest t σ H Q) : tTest t' σ H Q := i σ H _ h
theorem t_cmp {op : CmpOp} {r : R2} {ro : RO} (ho : OpR X (compareOp op) r) (hc : ROk X.K T r ro) (ha : EW T X a wa) (hb : EW T X b wb) (hm : behindInMarks op b = false := by first | exact nomark _ | rfl) : TW T X (.Compare a [op] [b] pos) (wTest (wOp ro wa wb)) :=
  PT.to (pt_cmpR ho ha hb hm) fun _ _ _ h => tTest_imp (fun _ _ _ z => tOp_of hc z) (tTest_of h)
theorem t_val (ha : EW T X a wa) (he : ∀ whole, isTrue a X.env whole = (do let v ← whole; standAt a.pos; holding [v] (truthy v)) := by intro _; rfl) : TW T X a (wTest wa) :=
  PT.to (pt_val ha he) fun _ _ _ h => tTest_of h
/-! ### and, or, not, if -/
def wAnd (ta tb : WT) : WT := fun ε μ k => ta ε μ fun c ε1 μ1 => if c = true then tb ε1 μ1 k else k false ε1 μ1
def wOr (ta tb : WT) : WT := fun ε μ k => ta ε μ fun c ε1 μ1 => if c = true then k true ε1 μ1 else tb ε1 μ1 k
def wNot (ta : WT) : WT := fun ε μ k => ta ε μ fun c ε1 μ1 => k (!c) ε1 μ1
theorem p_and1 (h : TW T X a ta) : PWW T X (.BoolOp .And [a] pos) ta := pw_and1 h
theorem p_or1 (h : TW T X a ta) : PWW T X (.BoolOp .Or [a] pos) ta := pw_or1 h
theorem p_and (h : TW T X a ta) (g : PWW T X (.BoolOp .And (b :: es) pos) tb) : PWW T X (.BoolOp .And (a :: b :: es) pos) (wAnd ta tb) := by
  refine PW.to (pw_and h g) fun σ H Q h => ?_
  obtain ⟨ω, ρ, ε, μ, k, rr, h, q⟩ := h
  refine ⟨ω, ρ, ε, μ, _, rr, h, fun ω1 ε1 μ1 c H1 le1 r1 h1 => ?_⟩
  cases c with
  | true => exact ⟨ω1, ρ, ε1, μ1, k, r1, h1, fun ω2 ε2 μ2 d H2 le2 r2 h2 => q ω2 ε2 μ2 d H2 (le1.trans le2) r2 h2⟩
  | false => exact q ω1 ε1 μ1 false H1 le1 r1 h1
theorem p_or (h : TW T X a ta) (g : PWW T X (.BoolOp .Or (b :: es) pos) tb) : PWW T X (.BoolOp .Or (a :: b :: es) pos) (wOr ta tb) := by
  refine PW.to (pw_or h g) fun σ H Q h => ?_
  obtain ⟨ω, ρ, ε, μ, k, rr, h, q⟩ := h
  refine ⟨ω, ρ, ε, μ, _, rr, h, fun ω1 ε1 μ1 c H1 le1 r1 h1 => ?_⟩
  cases c with
  | false => exact ⟨ω1, ρ, ε1, μ1, k, r1, h1, fun ω2 ε2 μ2 d H2 le2 r2 h2 => q ω2 ε2 μ2 d H2 (le1.trans le2) r2 h2⟩
  | true => exact q ω1 ε1 μ1 true H1 le1 r1 h1
theorem t_pw (h : PWW T X a ta) : TW T X a ta := L2.PW.pt h
theorem t_not (h : TW T X a ta) : TW T X (.UnaryOp .Not a pos) (wNot ta) := by
  refine PT.to (pt_not h) fun σ H Q h => ?_
  obtain ⟨ω, ρ, ε, μ, k, rr, h, q⟩ := h
  exact ⟨ω, ρ, ε, μ, _, rr, h, fun ω1 ε1 μ1 c H1 le1 r1 h1 => q ω1 ε1 μ1 _ H1 le1 r1 h1⟩
/-- as values: bools -/
def wAndV (wa wb : WE) : WE := fun ε μ k => wa ε μ fun c ε1 μ1 => match c with
  | .bl true => wb ε1 μ1 k
  | .bl false => k (.bl false) ε1 μ1
  | _ => False
def wOrV (wa wb : WE) : WE := fun ε μ k => wa ε μ fun c ε1 μ1 => match c with
  | .bl false => wb ε1 μ1 k
  | .bl true => k (.bl true) ε1 μ1
  | _ => False
def wNotV (wa : WE) : WE := fun ε μ k => wa ε μ fun c ε1 μ1 => match c with
  | .bl b => k (.bl (!b)) ε1 μ1
  | _ => False
def wIfE (t : WT) (wa wb : WE) : WE := fun ε μ k => t ε μ fun c ε1 μ1 => if c = true then wa ε1 μ1 k else wb ε1 μ1 k
theorem e_one {op : BoolOp} (h : EW T X a wa) : EW T X (.BoolOp op [a] pos) wa := pe_one h
theorem e_and (h : EW T X a wa) (g : EW T X (.BoolOp .And (b :: es) pos) wb) : EW T X (.BoolOp .And (a :: b :: es) pos) (wAndV wa wb) := by
  refine PE.to (pe_and h g) fun σ H Q h => ?_
  obtain ⟨ω, ρ, ε, μ, k, rr, h, q⟩ := h
  refine ⟨ω, ρ, ε, μ, _, rr, h, fun ω1 ε1 μ1 c v H1 le1 r1 rc h1 => ?_⟩
  split at h1
  · exact ⟨true, rc, ⟨ω1, ρ, ε1, μ1, k, r1, h1, fun ω2 ε2 μ2 d v H2 le2 r2 rd h2 => q ω2 ε2 μ2 d v H2 (le1.trans le2) r2 rd h2⟩⟩
  · exact ⟨false, rc, q ω1 ε1 μ1 (.bl false) _ H1 le1 r1 rfl h1⟩
  · exact h1.elim
theorem e_or (h : EW T X a wa) (g : EW T X (.BoolOp .Or (b :: es) pos) wb) : EW T X (.BoolOp .Or (a :: b :: es) pos) (wOrV wa wb) := by
  refine PE.to (pe_or h g) fun σ H Q h => ?_
  obtain ⟨ω, ρ, ε, μ, k, rr, h, q⟩ := h
  refine ⟨ω, ρ, ε, μ, _, rr, h, fun ω1 ε1 μ1 c v H1 le1 r1 rc h1 => ?_⟩
  split at h1
  · exact ⟨false, rc, ⟨ω1, ρ, ε1, μ1, k, r1, h1, fun ω2 ε2 μ2 d v H2 le2 r2 rd h2 => q ω2 ε2 μ2 d v H2 (le1.trans le2) r2 rd h2⟩⟩
  · exact ⟨true, rc, q ω1 ε1 μ1 (.bl true) _ H1 le1 r1 rfl h1⟩
  · exact h1.elim
theorem e_not (h : EW T X a wa) : EW T X (.UnaryOp .Not a pos) (wNotV wa) := by
  refine PE.to (pe_not h) fun σ H Q h => ?_
  obtain ⟨ω, ρ, ε, μ, k, rr, h, q⟩ := h
  refine ⟨ω, ρ, ε, μ, _, rr, h, fun ω1 ε1 μ1 c v H1 le1 r1 rc h1 => ?_⟩
  split at h1
  · rename_i b
    exact ⟨b, rc, q ω1 ε1 μ1 (.bl (!b)) _ H1 le1 r1 rfl h1⟩
  · exact h1.elim
theorem e_if (ht : TW T X c ta) (ha : EW T X a wa) (hb : EW T X b wb) : EW T X (.IfExp c a b pos) (wIfE ta wa wb) := by
  refine PE.to (pe_ifExp ht ha hb) fun σ H Q h => ?_
  obtain ⟨ω, ρ, ε, μ, k, rr, h, q⟩ := h
  refine ⟨ω, ρ, ε, μ, _, rr, h, fun ω1 ε1 μ1 c H1 le1 r1 h1 => ?_⟩
  cases c with
  | true => exact ⟨ω1, ρ, ε1, μ1, k, r1, h1, fun ω2 ε2 μ2 d v H2 le2 r2 rd h2 => q ω2 ε2 μ2 d v H2 (le1.trans le2) r2 rd h2⟩
  | false => exact ⟨ω1, ρ, ε1, μ1, k, r1, h1, fun ω2 ε2 μ2 d v H2 le2 r2 rd h2 => q ω2 ε2 μ2 d v H2 (le1.trans le2) r2 rd h2⟩
/-! ### arguments, displays -/
theorem a_nil : AW T X [] wNil := PA.to pa_nil fun _ _ _ h => tNil_of h
theorem a_cons (ha : EW T X e wa) (hr : AW T X es wt) (hs : starEach (e :: es) X.env = (false, eval e X.env) :: starEach es X.env := by rfl) : AW T X (e :: es) (wCons wa wt) :=
  PA.to (pa_cons ha hr hs) fun _ _ _ h => tCons_of h
def wTup (wt : WA) : WE := fun ε μ k => wt ε μ fun ds ε1 μ1 => ds.length ≤ sizeLine ∧ k (.tup ds) ε1 μ1
theorem e_tup {x1 : Nat} (h : AW T X es wt) : EW T X (.Tuple es x1 pos) (wTup wt) := by
  refine PE.to (pe_tup h) fun σ H Q h => ?_
  obtain ⟨ω, ρ, ε, μ, k, rr, h, q⟩ := h
  refine ⟨ω, ρ, ε, μ, _, rr, h, fun ω1 ε1 μ1 ds vs H1 le1 r1 rd h1 => ?_⟩
  refine ⟨by rw [rd.length]; exact h1.1, fun p hp => ?_⟩
  obtain ⟨le2, r2⟩ := r1.m.froze (o := .tup vs) hp
  exact q _ ε1 μ1 (.tup ds) _ _ (le1.trans le2) ⟨r2, r1.e.mono le2⟩ ⟨p, vs, rfl, .inl (.inl upd_same), RepL.mono le2 ds rd⟩ h1.2
/-- a new list: frozen, or a cell -/
def wLst (wt : WA) : WE := fun ε μ k => wt ε μ fun ds ε1 μ1 => ds.length ≤ sizeLine ∧ k (.lst ds) ε1 μ1
def wLstC (wt : WA) : WE := fun ε μ k => wt ε μ fun ds ε1 μ1 => ds.length ≤ sizeLine ∧ k (.ref μ1.length) ε1 (μ1 ++ [.lst ds])
theorem new_lst {K : PySem.W.Frag} {ω : Wd} {ρ : Hp} {ε : En} {μ : Mem} {σ : L2.St} {H : Hp} {p : Addr} {ds : List D} {vs : List V} (r : R K T ω ρ ε μ σ H) (hp : H p = none) (rd : RepL K ω ds vs) :
    ∃ ω', ω.le ω' ∧ R K T ω' ρ ε μ σ (upd H p (.lst vs)) ∧ Rep K ω' (.lst ds) (.ref p) := by
  obtain ⟨le2, r2⟩ := r.m.froze (o := .lst vs) hp
  exact ⟨_, le2, ⟨r2, r.e.mono le2⟩, ⟨p, vs, rfl, upd_same, RepL.mono le2 ds rd⟩⟩
theorem new_cell {K : PySem.W.Frag} {ω : Wd} {ρ : Hp} {ε : En} {μ : Mem} {σ : L2.St} {H : Hp} {p : Addr} {ds : List D} {vs : List V} (r : R K T ω ρ ε μ σ H) (hp : H p = none) (rd : RepL K ω ds vs) :
    ∃ ω', ω.le ω' ∧ R K T ω' ρ ε (μ ++ [.lst ds]) σ (upd H p (.lst vs)) ∧ Rep K ω' (.ref μ.length) (.ref p) := by
  obtain ⟨le2, r2, e2⟩ := r.m.alloc (o := .lst vs) (c := .lst ds) hp (by intro z; cases z) fun ω' le => ⟨vs, upd_same, RepL.mono le ds rd⟩
  exact ⟨_, le2, ⟨r2, r.e.mono le2⟩, ⟨p, e2, rfl⟩⟩
theorem e_lst (h : AW T X es wt) : EW T X (.List es pos) (wLst wt) := by
  refine PE.to (pe_lst h) fun σ H Q h => ?_
  obtain ⟨ω, ρ, ε, μ, k, rr, h, q⟩ := h
  refine ⟨ω, ρ, ε, μ, _, rr, h, fun ω1 ε1 μ1 ds vs H1 le1 r1 rd h1 => ?_⟩
  refine ⟨by rw [rd.length]; exact h1.1, fun p hp => ?_⟩
  obtain ⟨ω2, le2, r2, e2⟩ := new_lst r1 hp rd
  exact q _ ε1 μ1 (.lst ds) _ _ (le1.trans le2) r2 e2 h1.2
theorem e_lstC (h : AW T X es wt) : EW T X (.List es pos) (wLstC wt) := by
  refine PE.to (pe_lst h) fun σ H Q h => ?_
  obtain ⟨ω, ρ, ε, μ, k, rr, h, q⟩ := h
  refine ⟨ω, ρ, ε, μ, _, rr, h, fun ω1 ε1 μ1 ds vs H1 le1 r1 rd h1 => ?_⟩
  refine ⟨by rw [rd.length]; exact h1.1, fun p hp => ?_⟩
  obtain ⟨ω2, le2, r2, e2⟩ := new_cell r1 hp rd
  exact q _ ε1 _ _ _ _ (le1.trans le2) r2 e2 h1.2
/-! ### calls of built-in functions -/
theorem e_callB {id : String} {r : List V → Hp → VK → Prop} {ro : CO} {x : Str} {p : Pos} (hc : CallR X (.builtin id) r) (ho : COk X.K T r ro) (hg : Gl X x) (hm : X.mg x = none) (hv : bootBuiltins x = some (.builtin id)) (ha : AW T X (e :: es) wt)
    (hn : x ≠ "__name__" := by decide) (hdb : (x == ("__debug__" : Str)) = false := by decide) (he : starEach (e :: es) X.env = (false, eval e X.env) :: starEach es X.env := by rfl) (hpl : (backTo pos (starEach es X.env)).any (·.1) = false := by rfl) :
    EW T X (.Call (.Name x p) (e :: es) [] pos) (wCB ro wt) :=
  PE.to (pe_callB hc hg hm hv ha hn hdb he hpl) fun _ _ _ h => tCB_of ho h
theorem e_callTy {id : String} {r : List V → Hp → VK → Prop} {ro : CO} {x : Str} {p : Pos} (hc : CallR X (.type id) r) (ho : COk X.K T r ro) (hg : Gl X x) (hm : X.mg x = none) (hv : bootBuiltins x = some (.type id)) (ha : AW T X (e :: es) wt)
    (hn : x ≠ "__name__" := by decide) (hdb : (x == ("__debug__" : Str)) = false := by decide) (he : starEach (e :: es) X.env = (false, eval e X.env) :: starEach es X.env := by rfl) (hpl : (backTo pos (starEach es X.env)).any (·.1) = false := by rfl) :
    EW T X (.Call (.Name x p) (e :: es) [] pos) (wCB ro wt) :=
  PE.to (pe_callTy hc hg hm hv ha hn hdb he hpl) fun _ _ _ h => tCB_of ho h
end

/-! ### the calls of defs -/
/-- what a def does: the arguments, the memory, what is wanted behind it -/
abbrev FS := List D → Mem → (D → Mem → Prop) → Prop
def spOf (K : PySem.W.Frag) (T : List (Addr × Str)) (f : FS) : Sp := fun vs H Q _ => ∃ ω ρ ds μ k, Rm K T ω ρ μ H ∧ RepL K ω ds vs ∧ f ds μ k ∧ ∀ ω' d μ' v H', ω.le ω' → Rm K T ω' ρ μ' H' → Rep K ω' d v → k d μ' → Q v H'
def wCall (f : FS) (wt : WA) : WE := fun ε μ k => wt ε μ fun ds ε1 μ1 => f ds μ1 fun d μ2 => k d ε1 μ2
section
variable {T : List (Addr × Str)} {X : Cx} {pos p apos : Pos} {e : Expr} {es : List Expr} {wt : WA} {f : Addr} {fd : FuncData} {ps : List Str} {k : Nat} {fs : FS} {x : Str} {CX : CXT}
theorem tCall_of {K : PySem.W.Frag} {fs : FS} {E : XK} {σ : L2.St} {H : Hp} {Q : VK} (h : tE K T (wCall fs wt) σ H Q) : tCall (spOf K T fs) [] E (tA K T wt) σ H Q := by
  obtain ⟨ω, ρ, ε, μ, k, rr, h, q⟩ := h
  refine ⟨ω, ρ, ε, μ, _, rr, h, fun ω1 ε1 μ1 ds vs H1 le1 r1 rd h1 => ?_⟩
  show spOf K T fs (vs ++ []) H1 Q E
  rw [List.append_nil]
  exact ⟨ω1, ρ, ds, μ1, _, r1.m, rd, h1, fun ω2 d μ2 v H2 le2 r2 rd2 h2 => q ω2 ε1 μ2 d v H2 (le1.trans le2) ⟨r2, r1.e.mono le2⟩ rd2 h2⟩
theorem e_call (F : FnOk X.prog X.w X.K X.mg X.base CX0 k f fd ps (spOf X.K T fs)) (hr : Room k X.A) (hg : Gl X x) (hm : X.mg x = some (.ref f)) (hk : PySem.W.keepIn X.K (.ref f) = true) (hb : Binds X.K fd ps []) (ha : AW T X (e :: es) wt)
    (hdb : (x == ("__debug__" : Str)) = false := by decide) (he : starEach (e :: es) X.env = (false, eval e X.env) :: starEach es X.env := by rfl) (hpl : (backTo pos (starEach es X.env)).any (·.1) = false := by rfl) :
    EW T X (.Call (.Name x p) (e :: es) [] pos) (wCall fs wt) :=
  PE.to (pe_call (E := E0) F hr hg hm hk hb .nil pass0 ha hdb he hpl) fun _ _ _ h => tCall_of h
end
end WL
/-! The W layer, part 3: targets, statements, loops, comprehensions, the defs. -/
namespace WL
open PySem PySem.Spec L2

/-! ### targets: is tells which slots may change -/
def tGx (K : PySem.W.Frag) (T : List (Addr × Str)) (is : List Nat) (w : WG) : TG := fun v σ H Q => ∃ ω ρ ε μ k d, R K T ω ρ ε μ σ H ∧ Rep K ω d v ∧ w d ε μ k ∧
  ∀ ω' ε' μ' σ' H', ω.le ω' → R K T ω' ρ ε' μ' σ' H' → σ'.length = σ.length → (∀ j, j ∉ is → σ'[j]? = σ[j]?) → k ε' μ' → Q σ' H'
def tGsx (K : PySem.W.Frag) (T : List (Addr × Str)) (is : List Nat) (w : List D → En → Mem → (En → Mem → Prop) → Prop) : TGs := fun vs σ H Q => ∃ ω ρ ε μ k ds, R K T ω ρ ε μ σ H ∧ RepL K ω ds vs ∧ w ds ε μ k ∧
  ∀ ω' ε' μ' σ' H', ω.le ω' → R K T ω' ρ ε' μ' σ' H' → σ'.length = σ.length → (∀ j, j ∉ is → σ'[j]? = σ[j]?) → k ε' μ' → Q σ' H'
def GX (T : List (Addr × Str)) (X : Cx) (e : Expr) (is : List Nat) (w : WG) : Prop := PG X e (tGx X.K T is w)
def GsX (T : List (Addr × Str)) (X : Cx) (es : List Expr) (is : List Nat) (w : List D → En → Mem → (En → Mem → Prop) → Prop) : Prop := PGs X es (tGsx X.K T is w)
def wgName (i : Nat) : WG := fun d ε μ k => k (ε.set i (some d)) μ
def wgsNil : List D → En → Mem → (En → Mem → Prop) → Prop := fun ds ε μ k => match ds with
  | [] => k ε μ
  | _ => False
def wgsCons (g : WG) (gs : List D → En → Mem → (En → Mem → Prop) → Prop) : List D → En → Mem → (En → Mem → Prop) → Prop := fun ds ε μ k => match ds with
  | d :: r => g d ε μ fun ε1 μ1 => gs r ε1 μ1 k
  | _ => False
def wgTup (n : Nat) (gs : List D → En → Mem → (En → Mem → Prop) → Prop) : WG := fun d ε μ k => match d with
  | .tup ds => ds.length = n ∧ gs ds ε μ k
  | _ => False
section
variable {T : List (Addr × Str)} {X : Cx} {pos : Pos}
theorem PG.to2 {e : Expr} {t t' : TG} (h : PG X e t') (i : ∀ v σ H Q, t v σ H Q → t' v σ H Q) : PG X e t := ⟨fun pins s σ H v u Q I r q => h.run pins s σ H v u Q I r (i v σ H Q q)⟩
theorem PGs.to {es : List Expr} {t t' : TGs} (h : PGs X es t') (i : ∀ v σ H Q, t v σ H Q → t' v σ H Q) : PGs X es t := ⟨fun pins s σ H v u Q I r q => h.run pins s σ H v u Q I r (i v σ H Q q)⟩
theorem g_name (i : Nat) {x : Str} (hN : X.N.Nodup) (hi : X.N[i]? = some x := by rfl) (hx : Loc X.env.scope x := by first | exact Or.inl rfl | exact Or.inr rfl) (hf : X.fn x = true ∨ X.env.scope.names.lookup x = some .local := by first | exact .inl rfl | exact .inr rfl | assumption) : GX T X (.Name x pos) [i] (wgName i) := by
  refine PG.to2 (pg_name hN hi hx hf) fun v σ H Q h => ?_
  obtain ⟨ω, ρ, ε, μ, k, d, r, rd, h, q⟩ := h
  exact q ω _ μ _ H (Wd.le.refl _) ⟨r.m, r.e.set rd i⟩ (by simp) (fun j hj => by rw [List.getElem?_set_ne (fun z => hj (by simp [z]))]) h
theorem gs_nil : GsX T X [] [] wgsNil := by
  refine PGs.to pgs_nil fun v σ H Q h => ?_
  obtain ⟨ω, ρ, ε, μ, k, d, r, rd, h, q⟩ := h
  unfold wgsNil at h
  split at h
  · exact ⟨rd, q ω ε μ σ H (Wd.le.refl _) r rfl (fun _ _ => rfl) h⟩
  · exact h.elim
theorem gs_cons {e : Expr} {es : List Expr} {is js : List Nat} {g : WG} {gs : List D → En → Mem → (En → Mem → Prop) → Prop} (h1 : GX T X e is g) (h2 : GsX T X es js gs)
    (hs : (assignEach (e :: es) X.env).map (·.2) = assign e X.env :: (assignEach es X.env).map (·.2) := by rfl) : GsX T X (e :: es) (is ++ js) (wgsCons g gs) := by
  refine PGs.to (pgs_cons h1 h2 hs) fun v σ H Q h => ?_
  obtain ⟨ω, ρ, ε, μ, k, d, r, rd, h, q⟩ := h
  unfold wgsCons at h
  split at h
  · rename_i d ds
    obtain ⟨x, t, e1, r1, r2⟩ := rd
    refine ⟨x, t, e1, ω, ρ, ε, μ, _, d, r, r1, h, fun ω1 ε1 μ1 σ1 H1 le1 ra l1 s1 h1 => ?_⟩
    refine ⟨ω1, ρ, ε1, μ1, k, ds, ra, RepL.mono le1 _ r2, h1, fun ω2 ε2 μ2 σ2 H2 le2 rb l2 s2 h2 => ?_⟩
    exact q ω2 ε2 μ2 σ2 H2 (le1.trans le2) rb (l2.trans l1) (fun j hj => (s2 j fun z => hj (List.mem_append_right _ z)).trans (s1 j fun z => hj (List.mem_append_left _ z))) h2
  · exact h.elim
theorem g_tup {es : List Expr} {k n : Nat} {is : List Nat} {gs : List D → En → Mem → (En → Mem → Prop) → Prop} (hc : X.calm = true) (h : GsX T X es is gs)
    (hn : (assignEach es X.env).length = n := by rfl) (hst : (assignEach es X.env).findIdx? (·.1) = none := by rfl) : GX T X (.Tuple es k pos) is (wgTup n gs) := by
  refine PG.to2 (pg_tup hc h hn hst) fun v σ H Q h => ?_
  obtain ⟨ω, ρ, ε, μ, k, d, r, rd, h, q⟩ := h
  unfold wgTup at h
  split at h
  · rename_i ds
    obtain ⟨a, xs, e, s, l⟩ := rd
    exact ⟨a, xs, e, Same.seqT r.m.same s, by rw [l.length]; exact h.1, ω, ρ, ε, μ, k, ds, r, l, h.2, q⟩
  · exact h.elim
end

/-! ### statements -/
def wNext : WS := fun k ε μ => k.nx ε μ
def wSeq (t u : WS) : WS := fun k ε μ => t { k with nx := u k } ε μ
def wDrop (we : WE) : WS := fun k ε μ => we ε μ fun _ ε1 μ1 => k.nx ε1 μ1
def wRet (we : WE) : WS := fun k ε μ => we ε μ fun d _ μ1 => k.rt d μ1
def wRetN : WS := fun k _ μ => k.rt .non μ
def wIf (t : WT) (a b : WS) : WS := fun k ε μ => t ε μ fun c ε1 μ1 => if c = true then a k ε1 μ1 else b k ε1 μ1
def wSet (i : Nat) (we : WE) : WS := fun k ε μ => we ε μ fun d ε1 μ1 => k.nx (ε1.set i (some d)) μ1
def wAsg (we : WE) (g : WG) : WS := fun k ε μ => we ε μ fun d ε1 μ1 => g d ε1 μ1 k.nx
def wPar (i j : Nat) (wt : WA) : WS := fun k ε μ => wt ε μ fun ds ε1 μ1 => match ds with
  | [x, y] => k.nx ((ε1.set i (some x)).set j (some y)) μ1
  | _ => False
def wAug (i : Nat) (we : WE) (ro : RO) : WS := fun k ε μ => match ε[i]? with
  | some (some x) => we ε μ fun y ε1 μ1 => ro μ1 x y fun z => k.nx (ε1.set i (some z)) μ1
  | _ => False
def wWhile (c : WT) (b : WS) : WS := fun k ε μ => ∃ I : Nat → En → Mem → Prop, (∃ m, I m ε μ) ∧ ∀ m ε μ, I m ε μ →
  c ε μ fun x ε1 μ1 => if x = true then b { nx := fun ε2 μ2 => ∃ m', m' < m ∧ I m' ε2 μ2, rt := k.rt, bk := k.nx, ct := fun ε2 μ2 => ∃ m', m' < m ∧ I m' ε2 μ2 } ε1 μ1 else k.nx ε1 μ1
def wForL (g : WG) (b : WS) (k : WK) : List D → En → Mem → Prop
  | [], ε, μ => k.nx ε μ
  | d :: ds, ε, μ => g d ε μ fun ε1 μ1 => b { nx := wForL g b k ds, rt := k.rt, bk := k.nx, ct := wForL g b k ds } ε1 μ1
def wFor (wi : WA) (g : WG) (b : WS) : WS := fun k ε μ => wi ε μ fun items ε1 μ1 => wForL g b k items ε1 μ1
structure ItR (K : PySem.W.Frag) (T : List (Addr × Str)) (ω : Wd) (J : It) (items : List D) : Prop where
  go : ∀ ω' ρ μ H i, ω.le ω' → Rm K T ω' ρ μ H → i < items.length → J.go i H
  stop : ∀ ω' ρ μ H, ω.le ω' → Rm K T ω' ρ μ H → J.stop items.length H
  yld : ∀ ω' ρ μ H (i : Nat) (d : D) x H', ω.le ω' → Rm K T ω' ρ μ H → items[i]? = some d → J.yld i H x H' → ∃ ω'', ω'.le ω'' ∧ Rm K T ω'' ρ μ H' ∧ Rep K ω'' d x
def tIx (K : PySem.W.Frag) (T : List (Addr × Str)) (w : WA) : TI := fun σ H Q => ∃ ω ρ ε μ k, R K T ω ρ ε μ σ H ∧ w ε μ k ∧
  ∀ ω' ε' μ' items J H', ω.le ω' → R K T ω' ρ ε' μ' σ H' → ItR K T ω' J items → k items ε' μ' → Q J H'
def IX (T : List (Addr × Str)) (X : Cx) (tg e : Expr) (w : WA) : Prop := PI X tg e (tIx X.K T w)
section
variable {T : List (Addr × Str)} {X : Cx} {pos : Pos} {e : Expr} {es : List Expr} {st : Stmt} {sts : List Stmt} {we : WE} {wt : WA} {c : WT} {t u : WS} {g : WG}
theorem b_nil : BW T X [] wNext := by
  refine PSs.to pss_nil fun D σ H h => ?_
  obtain ⟨ω, ρ, ε, μ, k, r, h, q1, q2, q3, q4⟩ := h
  exact q1 ω ε μ σ H (Wd.le.refl _) r h
theorem s_pass : SW T X (.Pass pos) wNext := by
  refine PS.to ps_pass fun D σ H h => ?_
  obtain ⟨ω, ρ, ε, μ, k, r, h, q1, q2, q3, q4⟩ := h
  exact q1 ω ε μ σ H (Wd.le.refl _) r h
theorem s_break : SW T X (.Break pos) (fun k ε μ => k.bk ε μ) := by
  refine PS.to ps_break fun D σ H h => ?_
  obtain ⟨ω, ρ, ε, μ, k, r, h, q1, q2, q3, q4⟩ := h
  exact q3 ω ε μ σ H (Wd.le.refl _) r h
theorem s_continue : SW T X (.Continue pos) (fun k ε μ => k.ct ε μ) := by
  refine PS.to ps_continue fun D σ H h => ?_
  obtain ⟨ω, ρ, ε, μ, k, r, h, q1, q2, q3, q4⟩ := h
  exact q4 ω ε μ σ H (Wd.le.refl _) r h
theorem b_one (h : SW T X st t) : BW T X [st] t := PSs.to (pss_one h) fun D σ H h => h
theorem b_cons (h1 : SW T X st t) (h2 : BW T X sts u) : BW T X (st :: sts) (wSeq t u) := by
  refine PSs.to (pss_cons h1 h2) fun D σ H h => ?_
  obtain ⟨ω, ρ, ε, μ, k, r, h, q1, q2, q3, q4⟩ := h
  refine ⟨ω, ρ, ε, μ, { k with nx := u k }, r, h, fun ω' ε' μ' σ' H' le r' h' => ?_, q2, q3, q4⟩
  exact ⟨ω', ρ, ε', μ', k, r', h', fun ω2 ε2 μ2 σ2 H2 le2 => q1 ω2 ε2 μ2 σ2 H2 (le.trans le2), fun ω2 μ2 d v H2 le2 => q2 ω2 μ2 d v H2 (le.trans le2), fun ω2 ε2 μ2 σ2 H2 le2 => q3 ω2 ε2 μ2 σ2 H2 (le.trans le2), fun ω2 ε2 μ2 σ2 H2 le2 => q4 ω2 ε2 μ2 σ2 H2 (le.trans le2)⟩
/-- code that is never come to -/
def wNever : WS := fun _ _ _ => False
theorem b_never : BW T X sts wNever := by
  refine PSs.to pss_never fun D σ H h => ?_
  obtain ⟨ω, ρ, ε, μ, k, r, h, q1, q2, q3, q4⟩ := h
  exact h.elim
theorem s_never : SW T X st wNever := by
  refine PS.to ps_never fun D σ H h => ?_
  obtain ⟨ω, ρ, ε, μ, k, r, h, q1, q2, q3, q4⟩ := h
  exact h.elim
theorem s_expr (he : EW T X e we) (hs : swapsWith e none pos.line X.env = pure false := by rfl) : SW T X (.Expr e pos) (wDrop we) := by
  refine PS.to (ps_expr he hs) fun D σ H h => ?_
  obtain ⟨ω, ρ, ε, μ, k, r, h, q1, q2, q3, q4⟩ := h
  exact ⟨ω, ρ, ε, μ, _, r, h, fun ω' ε' μ' d v H' le r' rd h' => q1 ω' ε' μ' σ H' le r' h'⟩
theorem s_ret (he : EW T X e we) : SW T X (.Return (some e) pos) (wRet we) := by
  refine PS.to (ps_ret he) fun D σ H h => ?_
  obtain ⟨ω, ρ, ε, μ, k, r, h, q1, q2, q3, q4⟩ := h
  exact ⟨ω, ρ, ε, μ, _, r, h, fun ω' ε' μ' d v H' le r' rd h' => q2 ω' μ' d v H' le r'.m rd h'⟩
theorem s_retN : SW T X (.Return none pos) wRetN := by
  refine PS.to ps_retN fun D σ H h => ?_
  obtain ⟨ω, ρ, ε, μ, k, r, h, q1, q2, q3, q4⟩ := h
  exact q2 ω μ .non .non H (Wd.le.refl _) r.m rfl h
theorem ends_mono {K : PySem.W.Frag} {ω ω' : Wd} {ρ : Hp} {k : WK} {D : Ends} {w : WS} {ε : En} {μ : Mem} {σ : L2.St} {H : Hp} (le : ω.le ω') (r : R K T ω' ρ ε μ σ H) (h : w k ε μ)
    (q1 : ∀ ω' ε' μ' σ' H', ω.le ω' → R K T ω' ρ ε' μ' σ' H' → k.nx ε' μ' → D.nx σ' H') (q2 : ∀ ω' μ' d v H', ω.le ω' → Rm K T ω' ρ μ' H' → Rep K ω' d v → k.rt d μ' → D.rt v H')
    (q3 : ∀ ω' ε' μ' σ' H', ω.le ω' → R K T ω' ρ ε' μ' σ' H' → k.bk ε' μ' → D.bk σ' H') (q4 : ∀ ω' ε' μ' σ' H', ω.le ω' → R K T ω' ρ ε' μ' σ' H' → k.ct ε' μ' → D.ct σ' H') : tS K T w D σ H :=
  ⟨ω', ρ, ε, μ, k, r, h, fun ω2 ε2 μ2 σ2 H2 le2 => q1 ω2 ε2 μ2 σ2 H2 (le.trans le2), fun ω2 μ2 d v H2 le2 => q2 ω2 μ2 d v H2 (le.trans le2), fun ω2 ε2 μ2 σ2 H2 le2 => q3 ω2 ε2 μ2 σ2 H2 (le.trans le2), fun ω2 ε2 μ2 σ2 H2 le2 => q4 ω2 ε2 μ2 σ2 H2 (le.trans le2)⟩
theorem s_if {a b : List Stmt} {ce : Expr} (hc : TW T X ce c) (ha : BW T X a t) (hb : BW T X b u) : SW T X (.If ce a b pos) (wIf c t u) := by
  refine PS.to (ps_if hc ha hb) fun D σ H h => ?_
  obtain ⟨ω, ρ, ε, μ, k, r, h, q1, q2, q3, q4⟩ := h
  refine ⟨ω, ρ, ε, μ, _, r, h, fun ω' ε' μ' b H' le r' h' => ?_⟩
  cases b with
  | true => exact ends_mono (w := t) le r' h' q1 q2 q3 q4
  | false => exact ends_mono (w := u) le r' h' q1 q2 q3 q4
theorem s_set (i : Nat) {x : Str} {pos' : Pos} (hN : X.N.Nodup) (he : EW T X e we) (hi : X.N[i]? = some x := by rfl) (hx : Loc X.env.scope x := by first | exact Or.inl rfl | exact Or.inr rfl) (hs : swapsWith e (some (.Name x pos')) pos.line X.env = pure false := by rfl)
    (hf : X.fn x = true ∨ X.env.scope.names.lookup x = some .local := by first | exact .inl rfl | exact .inr rfl | assumption) : SW T X (.Assign [.Name x pos'] e pos) (wSet i we) := by
  refine PS.to (ps_set hN hi hx he hs hf) fun D σ H h => ?_
  obtain ⟨ω, ρ, ε, μ, k, r, h, q1, q2, q3, q4⟩ := h
  exact ⟨ω, ρ, ε, μ, _, r, h, fun ω' ε' μ' d v H' le r' rd h' => q1 ω' _ μ' _ H' le ⟨r'.m, r'.e.set rd i⟩ h'⟩
theorem s_asg {tg : Expr} {is : List Nat} (he : EW T X e we) (hg : GX T X tg is g) (hs : swapsWithSole [tg] e pos.line X.env = pure false := by rfl) (hw : swappedStores [tg] e X.env = pure none := by rfl)
    (h1 : (assignEach [tg] X.env).map (·.2) = [assign tg X.env] := by rfl) : SW T X (.Assign [tg] e pos) (wAsg we g) := by
  refine PS.to (ps_asg he hg hs hw h1) fun D σ H h => ?_
  obtain ⟨ω, ρ, ε, μ, k, r, h, q1, q2, q3, q4⟩ := h
  refine ⟨ω, ρ, ε, μ, _, r, h, fun ω' ε' μ' d v H' le r' rd h' => ?_⟩
  exact ⟨ω', ρ, ε', μ', _, d, r', rd, h', fun ω2 ε2 μ2 σ2 H2 le2 r2 _ _ h2 => q1 ω2 ε2 μ2 σ2 H2 (le.trans le2) r2 h2⟩
theorem s_par (i j : Nat) {x y : Str} {a b : Expr} {px py pt : Pos} {kt k2 : Nat} {pt2 : Pos} (hc : X.calm = true) (hN : X.N.Nodup) (ha : AW T X [a, b] wt) (hi : X.N[i]? = some x := by rfl) (hj : X.N[j]? = some y := by rfl) (hij : i ≠ j := by decide)
    (hx : X.env.scope.names.lookup x = some .local := by rfl) (hy : X.env.scope.names.lookup y = some .local := by rfl)
    (hw : swappedStores [.Tuple [.Name x px, .Name y py] kt pt] (.Tuple [a, b] k2 pt2) X.env = pure (some [x, y]) := by rfl)
    (hs : swapsWithSole [.Tuple [.Name x px, .Name y py] kt pt] (.Tuple [a, b] k2 pt2) pos.line X.env = pure false := by rfl) :
    SW T X (.Assign [.Tuple [.Name x px, .Name y py] kt pt] (.Tuple [a, b] k2 pt2) pos) (wPar i j wt) := by
  refine PS.to (ps_par hc hN hi hj hij hx hy ha hw hs) fun D σ H h => ?_
  obtain ⟨ω, ρ, ε, μ, k, r, h, q1, q2, q3, q4⟩ := h
  refine ⟨ω, ρ, ε, μ, _, r, h, fun ω' ε' μ' ds vs H' le r' rd h' => ?_⟩
  split at h'
  · rename_i d1 d2
    obtain ⟨v1, t1, e1, r1, s1⟩ := rd
    obtain ⟨v2, t2, e2, r2, s2⟩ := s1
    have s2 : t2 = [] := s2
    subst s2 e2
    exact ⟨v1, v2, e1, q1 ω' _ μ' _ H' le ⟨r'.m, (r'.e.set r1 i).set r2 j⟩ h'⟩
  · exact h'.elim
theorem s_aug (i : Nat) {x : Str} {op : Operator} {ti : TIp} {ro : RO} {pos' : Pos} (hN : X.N.Nodup) (he : EW T X e we) (ho : PIp X op ti) (hr : ROk X.K T ti ro) (hi : X.N[i]? = some x := by rfl) (hx : Loc X.env.scope x := by first | exact Or.inl rfl | exact Or.inr rfl)
    (hf : X.fn x = true ∨ X.env.scope.names.lookup x = some .local := by first | exact .inl rfl | exact .inr rfl | assumption) : SW T X (.AugAssign (.Name x pos') op e pos) (wAug i we ro) := by
  refine PS.to (ps_aug hN hi hx he ho hf) fun D σ H h => ?_
  obtain ⟨ω, ρ, ε, μ, k, r, h, q1, q2, q3, q4⟩ := h
  unfold wAug at h
  split at h
  · rename_i d hd
    obtain ⟨v, e1, e2⟩ := r.e.2 i d hd
    refine ⟨v, e1, ω, ρ, ε, μ, _, r, h, fun ω' ε' μ' y vy H' le r' ry h' => ?_⟩
    refine hr ω' ρ μ' H' d y v vy _ _ r'.m (Rep.mono le d e2) ry h' fun ω2 z vz H2 le2 r2 rz hz => ?_
    exact q1 ω2 _ μ' _ H2 (le.trans le2) ⟨r2, (r'.e.mono le2).set rz i⟩ hz
  · exact h.elim
theorem s_while {ce : Expr} {b : List Stmt} (hp : PassesOwn (model X.prog X.w) X.A X.env X.xe) (hc : TW T X ce c) (hb : BW T X b t) : SW T X (.While ce b [] pos) (wWhile c t) := by
  refine PS.to (ps_while hp hc hb) fun D σ H h => ?_
  obtain ⟨ω, ρ, ε, μ, k, r, ⟨I, ⟨m0, i0⟩, turn⟩, q1, q2, q3, q4⟩ := h
  refine ⟨fun m σ H => ∃ ω' ε μ, ω.le ω' ∧ R X.K T ω' ρ ε μ σ H ∧ I m ε μ, ⟨m0, ω, ε, μ, Wd.le.refl _, r, i0⟩, fun m σ H hW => ?_⟩
  obtain ⟨ω1, ε1, μ1, le1, r1, i1⟩ := hW
  refine ⟨ω1, ρ, ε1, μ1, _, r1, turn m ε1 μ1 i1, fun ω2 ε2 μ2 b H2 le2 r2 h2 => ?_⟩
  cases b with
  | true =>
    refine ⟨fun σ' H' => ∃ m', m' < m ∧ ∃ ω' ε μ, ω.le ω' ∧ R X.K T ω' ρ ε μ σ' H' ∧ I m' ε μ, fun σ' H' z => z, ?_⟩
    refine ⟨ω2, ρ, ε2, μ2, _, r2, h2, ?_, ?_, ?_, ?_⟩
    · intro ω3 ε3 μ3 σ3 H3 le3 r3 ⟨m', hm, i3⟩
      exact ⟨m', hm, ω3, ε3, μ3, le1.trans (le2.trans le3), r3, i3⟩
    · intro ω3 μ3 d v H3 le3
      exact q2 ω3 μ3 d v H3 (le1.trans (le2.trans le3))
    · intro ω3 ε3 μ3 σ3 H3 le3
      exact q1 ω3 ε3 μ3 σ3 H3 (le1.trans (le2.trans le3))
    · intro ω3 ε3 μ3 σ3 H3 le3 r3 ⟨m', hm, i3⟩
      exact ⟨m', hm, ω3, ε3, μ3, le1.trans (le2.trans le3), r3, i3⟩
  | false => exact q1 ω2 ε2 μ2 σ H2 (le1.trans le2) r2 h2
theorem s_for {tg iter : Expr} {is : List Nat} {b : List Stmt} (hp : PassesOwn (model X.prog X.w) X.A X.env X.xe) (hc : X.calm = true) (hi : IX T X tg iter wt) (hg : GX T X tg is g) (hb : BW T X b t)
    (hs : ∀ x, foldedSetIterable iter X.env x = pure x := by intro _; rfl) : SW T X (.For tg iter b [] pos) (wFor wt g t) := by
  refine PS.to (ps_for hp hc hi hg hb hs) fun D σ H h => ?_
  obtain ⟨ω, ρ, ε, μ, k, r, h, q1, q2, q3, q4⟩ := h
  refine ⟨ω, ρ, ε, μ, _, r, h, fun ω1 ε1 μ1 items J H1 le1 r1 it h1 => ?_⟩
  refine ⟨fun i m σ' H' => m = items.length - i ∧ i ≤ items.length ∧ ∃ ω' ε' μ', ω1.le ω' ∧ R X.K T ω' ρ ε' μ' σ' H' ∧ wForL g t k (items.drop i) ε' μ', ⟨_, rfl, Nat.zero_le _, ω1, ε1, μ1, Wd.le.refl _, r1, h1⟩, fun i m σ' H' hW => ?_⟩
  obtain ⟨hm, hi', ω2, ε2, μ2, le2, r2, h2⟩ := hW
  by_cases hl : i < items.length
  · refine .inr ⟨it.go ω2 ρ μ2 H' i le2 r2.m hl, fun σ3 H3 => ∃ ω' ε' μ', ω1.le ω' ∧ R X.K T ω' ρ ε' μ' σ3 H3 ∧ wForL g t k (items.drop (i + 1)) ε' μ', fun σ3 H3 z => ⟨items.length - (i + 1), by omega, rfl, hl, z⟩, fun x H3 hy => ?_⟩
    obtain ⟨ω3, le3, r3, rx⟩ := it.yld ω2 ρ μ2 H' i items[i] x H3 le2 r2.m (List.getElem?_eq_getElem hl) hy
    rw [List.drop_eq_getElem_cons hl] at h2
    refine ⟨ω3, ρ, ε2, μ2, _, items[i], ⟨r3, r2.e.mono le3⟩, rx, h2, fun ω4 ε4 μ4 σ4 H4 le4 r4 _ _ h4 => ?_⟩
    have l4 := le2.trans (le3.trans le4)
    refine ⟨ω4, ρ, ε4, μ4, _, r4, h4, fun ω5 ε5 μ5 σ5 H5 le5 r5 h5 => ⟨ω5, ε5, μ5, l4.trans le5, r5, h5⟩, fun ω5 μ5 d v H5 le5 => q2 ω5 μ5 d v H5 (le1.trans (l4.trans le5)), fun ω5 ε5 μ5 σ5 H5 le5 => q1 ω5 ε5 μ5 σ5 H5 (le1.trans (l4.trans le5)), fun ω5 ε5 μ5 σ5 H5 le5 r5 h5 => ⟨ω5, ε5, μ5, l4.trans le5, r5, h5⟩⟩
  · have hie : i = items.length := by omega
    subst hie
    refine .inl ⟨it.stop ω2 ρ μ2 H' le2 r2.m, ?_⟩
    rw [List.drop_eq_nil_of_le (by omega)] at h2
    exact q1 ω2 ε2 μ2 σ' H' (le1.trans le2) r2 h2
end

/-! ### comprehensions -/
def wipeE (ε : En) : List Nat → En
  | [] => ε
  | v :: vs => (wipeE ε vs).set v none
theorem wipeE_length (ε : En) : ∀ vs : List Nat, (wipeE ε vs).length = ε.length
  | [] => rfl
  | v :: vs => by unfold wipeE; rw [List.length_set, wipeE_length ε vs]
theorem wipeE_some {ε : En} {i : Nat} {x : D} : ∀ {vs : List Nat}, (wipeE ε vs)[i]? = some (some x) → ε[i]? = some (some x) ∧ i ∉ vs
  | [], h => ⟨h, by simp⟩
  | v :: vs, h => by
    unfold wipeE at h
    by_cases hi : v = i
    · subst hi
      by_cases hv : v < (wipeE ε vs).length
      · rw [List.getElem?_set_self hv] at h; cases h
      · rw [List.getElem?_eq_none (by simpa using hv)] at h; cases h
    · rw [List.getElem?_set_ne hi] at h
      obtain ⟨h1, h2⟩ := wipeE_some h
      exact ⟨h1, by simp only [List.mem_cons, not_or]; exact ⟨fun e => hi e.symm, h2⟩⟩
theorem EnvR.wipe {K : PySem.W.Frag} {ω : Wd} {ε : En} {σ : L2.St} (e : EnvR K ω ε σ) (vs : List Nat) : EnvR K ω (wipeE ε vs) (L2.wipe σ vs) := by
  refine ⟨by rw [wipeE_length, wipe_length, e.1], fun i d h => ?_⟩
  obtain ⟨h1, h2⟩ := wipeE_some h
  rw [wipe_out h2]
  exact e.2 i d h1
theorem wipe_in {σ : L2.St} {i : Nat} : ∀ {vs : List Nat}, i ∈ vs → i < σ.length → (L2.wipe σ vs)[i]? = some none
  | v :: vs, h, hl => by
    unfold L2.wipe
    by_cases hi : v = i
    · subst hi
      rw [List.getElem?_set_self (by rw [wipe_length]; exact hl)]
    · rw [List.getElem?_set_ne hi]
      rcases List.mem_cons.mp h with z | z
      · exact absurd z.symm hi
      · exact wipe_in z hl
theorem wipe_same {σ σ' : L2.St} {vs is : List Nat} (hs : ∀ j ∈ is, j ∈ vs) (hl : σ'.length = σ.length) (h : ∀ j, j ∉ is → σ'[j]? = (L2.wipe σ vs)[j]?) : L2.wipe σ' vs = L2.wipe σ vs := by
  apply List.ext_getElem?
  intro i
  by_cases hi : i ∈ vs
  · by_cases hl2 : i < σ.length
    · rw [wipe_in hi (by rw [hl]; exact hl2), wipe_in hi hl2]
    · rw [List.getElem?_eq_none (by rw [wipe_length]; omega), List.getElem?_eq_none (by rw [wipe_length]; omega)]
  · rw [wipe_out hi, h i fun z => hi (hs i z)]
def wLcL (g : WG) (t : WT) (we : WE) (εb : En) (kd : List D → Mem → Prop) : List D → List D → Mem → Prop
  | [], acc, μ => kd acc μ
  | d :: ds, acc, μ => g d εb μ fun ε2 μ2 => t ε2 μ2 fun b ε3 μ3 => ε3 = ε2 ∧ if b = true then we ε3 μ3 fun y ε4 μ4 => ε4 = ε2 ∧ acc.length < sizeLine ∧ wLcL g t we εb kd ds (acc ++ [y]) μ4 else wLcL g t we εb kd ds acc μ3
/-- a comprehension's list: frozen, or a cell -/
def wLc (wi : WA) (g : WG) (t : WT) (we : WE) (vs : List Nat) : WE := fun ε μ k => wi ε μ fun items ε1 μ1 => wLcL g t we (wipeE ε1 vs) (fun acc μ2 => k (.lst acc) ε1 μ2) items [] μ1
def wLcC (wi : WA) (g : WG) (t : WT) (we : WE) (vs : List Nat) : WE := fun ε μ k => wi ε μ fun items ε1 μ1 => wLcL g t we (wipeE ε1 vs) (fun acc μ2 => k (.ref μ2.length) ε1 (μ2 ++ [.lst acc])) items [] μ1
def wYes : WT := fun ε μ k => k true ε μ
def TsW (T : List (Addr × Str)) (X : Cx) (ifs : List Expr) (w : WT) : Prop := PTs X ifs (tT X.K T w)
section
variable {T : List (Addr × Str)} {X : Cx} {pos : Pos} {e elt tg iter : Expr} {ifs : List Expr} {scope : Scope} {own : List (Str × Nat)} {we : WE} {wt : WA} {c : WT} {g : WG} {is : List Nat}
theorem PTs.to {t t' : TT} (h : PTs X ifs t') (i : ∀ σ H Q, t σ H Q → t' σ H Q) : PTs X ifs t := ⟨fun pins s σ H Q I q => h.run pins s σ H Q I (i σ H Q q)⟩
theorem ts_nil : TsW T X [] wYes := by
  refine PTs.to pts_nil fun σ H Q h => ?_
  obtain ⟨ω, ρ, ε, μ, k, rr, h, q⟩ := h
  exact q ω ε μ true H (Wd.le.refl _) rr h
theorem ts_one (h : TW T X e c) : TsW T X [e] c := pts_one h
/-- what a comprehension leaves: a new list, known to no one -/
theorem lc_of {K : PySem.W.Frag} {vs : List Nat} (hsub : ∀ j ∈ is, j ∈ vs) {σ : L2.St} {H : Hp} {Q : VK} {ω : Wd} {ρ : Hp} {ε : En} {μ : Mem} {kd : En → List D → Mem → Prop} (rr : R K T ω ρ ε μ σ H)
    (h : wt ε μ fun items ε1 μ1 => wLcL g c we (wipeE ε1 vs) (kd ε1) items [] μ1)
    (q : ∀ ω' ε' μ' ds xs p H', ω.le ω' → R K T ω' ρ ε' μ' σ H' → H' p = some (.lst xs) → p ∉ ω'.φ → ω'.Hf p = none → ρ p = none → RepL K ω' ds xs → kd ε' ds μ' → Q (.ref p) H') :
    tLc (tIx K T wt) (tGx K T is g) (tT K T c) (tE K T we) vs σ H Q := by
  refine ⟨ω, ρ, ε, μ, _, rr, h, fun ω1 ε1 μ1 items J H1 le1 r1 it h1 => ?_⟩
  intro Dp hD
  obtain ⟨n1, n2, n3⟩ := r1.m.new hD
  have eb := r1.e.wipe vs
  -- ρ with the new list
  refine ⟨fun i m H' => m = items.length - i ∧ i ≤ items.length ∧ ∃ ω' μ' acc xs, ω1.le ω' ∧ Rm K T ω' (upd ρ Dp (.lst xs)) μ' H' ∧ RepL K ω' acc xs ∧ wLcL g c we (wipeE ε1 vs) (kd ε1) (items.drop i) acc μ', ⟨_, rfl, Nat.zero_le _, ω1, μ1, [], [], Wd.le.refl _, ?_, RepL.nil, h1⟩, fun i m H' hW => ?_⟩
  · have r2 := r1.m.skip (o := .lst []) hD
    refine ⟨r2.same, r2.nd, r2.len, r2.cells, r2.tab, fun a o ha => ?_, fun b ps => ⟨(r2.nt b ps).1, nt_upd (r2.nt b ps).2⟩⟩
    by_cases he : a = Dp
    · subst he
      rw [upd_same] at ha ⊢
      exact ⟨ha, n1, n2⟩
    · rw [upd_ne he] at ha
      exact r2.fr a o ha
  obtain ⟨hm, hi', ω2, μ2, acc, xs, le2, r2, ra, h2⟩ := hW
  by_cases hl : i < items.length
  · refine .inr ⟨it.go ω2 _ μ2 H' i le2 r2 hl, fun H3 => ∃ ω' μ' acc xs, ω1.le ω' ∧ Rm K T ω' (upd ρ Dp (.lst xs)) μ' H3 ∧ RepL K ω' acc xs ∧ wLcL g c we (wipeE ε1 vs) (kd ε1) (items.drop (i + 1)) acc μ', fun H3 z => ⟨items.length - (i + 1), by omega, rfl, hl, z⟩, fun x H3 hy => ?_⟩
    obtain ⟨ω3, le3, r3, rx⟩ := it.yld ω2 _ μ2 H' i items[i] x H3 le2 r2 (List.getElem?_eq_getElem hl) hy
    rw [List.drop_eq_getElem_cons hl] at h2
    refine ⟨ω3, _, wipeE ε1 vs, μ2, _, items[i], ⟨r3, eb.mono (le2.trans le3)⟩, rx, h2, fun ω4 ε4 μ4 σ4 H4 le4 r4 hl4 hs4 h4 => ?_⟩
    refine ⟨wipe_same hsub (hl4.trans (wipe_length _ _)) hs4, ω4, _, ε4, μ4, _, r4, h4, fun ω5 ε5 μ5 b H5 le5 r5 h5 => ?_⟩
    obtain ⟨e5, h5⟩ := h5
    have l5 := le2.trans (le3.trans (le4.trans le5))
    cases b with
    | true =>
      show tE K T we σ4 H5 _
      refine ⟨ω5, _, ε5, μ5, _, r5, h5, fun ω6 ε6 μ6 y vy H6 le6 r6 ry h6 => ?_⟩
      obtain ⟨e6, hz6, h6⟩ := h6
      have hD6 := (r6.m.fr Dp (.lst xs) upd_same)
      refine ⟨xs, hD6.1, by rw [ra.length]; exact hz6, ω6, μ6, acc ++ [y], xs ++ [vy], l5.trans le6, ?_, RepL.append (RepL.mono (le3.trans (le4.trans (le5.trans le6))) _ ra) (RepL.cons ry RepL.nil), h6⟩
      -- the list at D grows
      have nD : ∀ b o, H6 b = some o → b ≠ Dp → upd H6 Dp (.lst (xs ++ [vy])) b = some o := fun b o e hb => by rw [upd_ne hb]; exact e
      refine ⟨fun b o e => ?_, r6.m.nd, r6.m.len, fun n a c h7 h8 => ?_, tabs_upd r6.m.tab hD6.1 (fun ps z => by cases z) (fun φ z => by cases z), fun a o ha => ?_, fun b ps => ⟨(r6.m.nt b ps).1, nt_upd (nt_ne n3 (r6.m.nt b ps).2)⟩⟩
      · exact nD b o (r6.m.same _ _ e) (ne_of_none e hD6.2.2)
      · obtain ⟨c1, c2⟩ := r6.m.cells n a c h7 h8
        have na : a ≠ Dp := fun z => hD6.2.1 (z ▸ List.mem_of_getElem? h7)
        exact ⟨c1.mono (Wd.le.refl _) fun o q => nD a o q na, c2⟩
      · by_cases he : a = Dp
        · subst he
          rw [upd_same] at ha ⊢
          exact ⟨ha, hD6.2⟩
        · rw [upd_ne he] at ha
          have ha' : upd ρ Dp (.lst xs) a = some o := by rw [upd_ne he]; exact ha
          obtain ⟨f1, f2⟩ := r6.m.fr a o ha'
          exact ⟨nD a o f1 he, f2⟩
    | false =>
      show ∃ ω' μ' acc xs, _
      exact ⟨ω5, μ5, acc, xs, l5, r5.m, RepL.mono (le3.trans (le4.trans le5)) _ ra, h5⟩
  · have hie : i = items.length := by omega
    subst hie
    refine .inl ⟨it.stop ω2 _ μ2 H' le2 r2, ?_⟩
    rw [List.drop_eq_nil_of_le (by omega)] at h2
    obtain ⟨f1, f2, f3⟩ := r2.fr Dp (.lst xs) upd_same
    refine q ω2 ε1 μ2 acc xs Dp H' (le1.trans le2) ⟨⟨r2.same, r2.nd, r2.len, r2.cells, r2.tab, fun a o ha => ?_, fun b ps => ⟨(r2.nt b ps).1, nt_ne n3 (r2.nt b ps).2⟩⟩, r1.e.mono le2⟩ f1 f2 f3 n3 ra h2
    have na : a ≠ Dp := ne_of_none ha n3
    exact r2.fr a o (by rw [upd_ne na]; exact ha)
/-- a list known to no one is frozen -/
theorem late_lst {K : PySem.W.Frag} {ω : Wd} {ρ : Hp} {ε : En} {μ : Mem} {σ : L2.St} {H : Hp} {p : Addr} {ds : List D} {vs : List V} (r : R K T ω ρ ε μ σ H) (hp : H p = some (.lst vs)) (h1 : p ∉ ω.φ) (h2 : ω.Hf p = none) (h3 : ρ p = none) (rd : RepL K ω ds vs) :
    ∃ ω', ω.le ω' ∧ R K T ω' ρ ε μ σ H ∧ Rep K ω' (.lst ds) (.ref p) := by
  have le : ω.le ⟨ω.φ, upd ω.Hf p (.lst vs)⟩ := ⟨List.prefix_refl _, same_new h2⟩
  refine ⟨_, le, ⟨⟨fun b x q => ?_, r.m.nd, r.m.len, fun n a c g1 g2 => ?_, r.m.tab, fun a x q => ?_, fun b ps => ⟨nt_upd (r.m.nt b ps).1, (r.m.nt b ps).2⟩⟩, r.e.mono le⟩, ⟨p, vs, rfl, upd_same, RepL.mono le ds rd⟩⟩
  · by_cases hb : b = p
    · subst hb
      have q' : upd ω.Hf b (.lst vs) b = some x := q
      rw [upd_same] at q'
      cases q'
      exact hp
    · have q' : upd ω.Hf p (.lst vs) b = some x := q
      rw [upd_ne hb] at q'
      exact r.m.same _ _ q'
  · obtain ⟨c1, c2⟩ := r.m.cells n a c g1 g2
    have na : a ≠ p := fun z => h1 (z ▸ List.mem_of_getElem? g1)
    exact ⟨c1.mono le fun o q => q, fun z => by show upd ω.Hf p (.lst vs) a = none; rw [upd_ne na]; exact c2 z⟩
  · obtain ⟨f1, f2, f3⟩ := r.m.fr a x q
    have na : a ≠ p := ne_of_none q h3
    exact ⟨f1, f2, by show upd ω.Hf p (.lst vs) a = none; rw [upd_ne na]; exact f3⟩
/-- .. becomes a cell -/
theorem late_cell {K : PySem.W.Frag} {ω : Wd} {ρ : Hp} {ε : En} {μ : Mem} {σ : L2.St} {H : Hp} {p : Addr} {ds : List D} {vs : List V} (r : R K T ω ρ ε μ σ H) (hp : H p = some (.lst vs)) (h1 : p ∉ ω.φ) (h2 : ω.Hf p = none) (h3 : ρ p = none) (rd : RepL K ω ds vs) :
    ∃ ω', ω.le ω' ∧ R K T ω' ρ ε (μ ++ [.lst ds]) σ H ∧ Rep K ω' (.ref μ.length) (.ref p) := by
  have le : ω.le ⟨ω.φ ++ [p], ω.Hf⟩ := ⟨List.prefix_append _ _, Same.refl _⟩
  have hl : ω.φ.length = μ.length := r.m.len
  refine ⟨⟨ω.φ ++ [p], ω.Hf⟩, le, ⟨⟨r.m.same, ?_, by simp [hl], fun n a c' g1 g2 => ?_, r.m.tab, fun a x q => ?_, r.m.nt⟩, r.e.mono le⟩, ⟨p, by show (ω.φ ++ [p])[μ.length]? = some p; rw [← hl]; simp, rfl⟩⟩
  · show (ω.φ ++ [p]).Nodup
    rw [List.nodup_append]
    refine ⟨r.m.nd, by simp, fun x hx y hy => ?_⟩
    have e : y = p := by simpa using hy
    subst e
    exact fun z => h1 (z ▸ hx)
  · have g1 : (ω.φ ++ [p])[n]? = some a := g1
    by_cases hn : n < ω.φ.length
    · rw [List.getElem?_append_left hn] at g1
      rw [List.getElem?_append_left (by omega)] at g2
      obtain ⟨c1, c2⟩ := r.m.cells n a c' g1 g2
      exact ⟨c1.mono le fun o q => q, c2⟩
    · rw [List.getElem?_append_right (by omega)] at g1
      rw [List.getElem?_append_right (by omega)] at g2
      have e0 : n - ω.φ.length = 0 := by
        have := (List.getElem?_eq_some_iff.mp g1).1
        simp at this
        omega
      rw [e0] at g1
      rw [show n - μ.length = 0 by omega] at g2
      have e1 : p = a := by simpa using g1
      have e2 : Cell.lst ds = c' := by simpa using g2
      subst e1 e2
      exact ⟨⟨vs, hp, RepL.mono le ds rd⟩, fun _ => h2⟩
  · obtain ⟨f1, f2, f3⟩ := r.m.fr a x q
    refine ⟨f1, fun z => ?_, f3⟩
    rcases List.mem_append.mp z with z | z
    · exact f2 z
    · have e : a = p := by simpa using z
      exact ne_of_none q h3 e
theorem e_lc (hc : X.calm = true) (hN : X.N.Nodup) (hi : IX T X tg iter wt) (ok : BlkOk X.N X.env.scope scope own)
    (hg : ∀ (s : Shared) (H : Hp) (C : Addr) (cl : List (Str × Addr)) (fp : List Addr), GX T (X.blk s H scope (compEnvC scope cl C X.env) fp) tg is g) (ht : ∀ (s : Shared) (H : Hp) (C : Addr) (cl : List (Str × Addr)) (fp : List Addr), TsW T (X.blk s H scope (compEnvC scope cl C X.env) fp) ifs c)
    (he : ∀ (s : Shared) (H : Hp) (C : Addr) (cl : List (Str × Addr)) (fp : List Addr), EW T (X.blk s H scope (compEnvC scope cl C X.env) fp) elt we) (hsub : ∀ j ∈ is, j ∈ own.map (·.2) := by decide) (hs : ∀ x, foldedSetIterable iter X.env x = pure x := by intro _; rfl) :
    EW T X (.ListComp elt [⟨tg, iter, ifs, 0⟩] scope pos) (wLc wt g c we (own.map (·.2))) := by
  refine PE.to (pe_lc (g := tGx X.K T is g) (tt := tT X.K T c) (te := tE X.K T we) hc hN hi ok hg ht he hs) fun σ H Q h => ?_
  obtain ⟨ω, ρ, ε, μ, k, rr, h, q⟩ := h
  refine lc_of hsub (kd := fun ε1 acc μ2 => k (.lst acc) ε1 μ2) rr h fun ω' ε' μ' ds xs p H' le r' h1 h2 h3 h4 rd hk => ?_
  obtain ⟨ω2, le2, r2, rp⟩ := late_lst r' h1 h2 h3 h4 rd
  exact q ω2 ε' μ' _ _ H' (le.trans le2) r2 rp hk
theorem e_lcC (hc : X.calm = true) (hN : X.N.Nodup) (hi : IX T X tg iter wt) (ok : BlkOk X.N X.env.scope scope own)
    (hg : ∀ (s : Shared) (H : Hp) (C : Addr) (cl : List (Str × Addr)) (fp : List Addr), GX T (X.blk s H scope (compEnvC scope cl C X.env) fp) tg is g) (ht : ∀ (s : Shared) (H : Hp) (C : Addr) (cl : List (Str × Addr)) (fp : List Addr), TsW T (X.blk s H scope (compEnvC scope cl C X.env) fp) ifs c)
    (he : ∀ (s : Shared) (H : Hp) (C : Addr) (cl : List (Str × Addr)) (fp : List Addr), EW T (X.blk s H scope (compEnvC scope cl C X.env) fp) elt we) (hsub : ∀ j ∈ is, j ∈ own.map (·.2) := by decide) (hs : ∀ x, foldedSetIterable iter X.env x = pure x := by intro _; rfl) :
    EW T X (.ListComp elt [⟨tg, iter, ifs, 0⟩] scope pos) (wLcC wt g c we (own.map (·.2))) := by
  refine PE.to (pe_lc (g := tGx X.K T is g) (tt := tT X.K T c) (te := tE X.K T we) hc hN hi ok hg ht he hs) fun σ H Q h => ?_
  obtain ⟨ω, ρ, ε, μ, k, rr, h, q⟩ := h
  refine lc_of hsub (kd := fun ε1 acc μ2 => k (.ref (List.length μ2)) ε1 (μ2 ++ [Cell.lst acc])) rr h fun ω' ε' μ' ds xs p H' le r' h1 h2 h3 h4 rd hk => ?_
  obtain ⟨ω2, le2, r2, rp⟩ := late_cell r' h1 h2 h3 h4 rd
  exact q ω2 ε' _ _ _ H' (le.trans le2) r2 rp hk
/-- name = [..] on one line, the name a local -/
theorem s_setLc (i : Nat) {y : Str} {py spos : Pos} (hc : X.calm = true) (hN : X.N.Nodup) (hi : IX T X tg iter wt) (ok : BlkOk X.N X.env.scope scope own)
    (hg : ∀ (s : Shared) (H : Hp) (C : Addr) (cl : List (Str × Addr)) (fp : List Addr), GX T (X.blk s H scope (compEnvC scope cl C X.env) fp) tg is g) (ht : ∀ (s : Shared) (H : Hp) (C : Addr) (cl : List (Str × Addr)) (fp : List Addr), TsW T (X.blk s H scope (compEnvC scope cl C X.env) fp) ifs c)
    (he : ∀ (s : Shared) (H : Hp) (C : Addr) (cl : List (Str × Addr)) (fp : List Addr), EW T (X.blk s H scope (compEnvC scope cl C X.env) fp) elt we) (hy : X.N[i]? = some y := by rfl) (hyl : X.env.scope.names.lookup y = some .local := by rfl)
    (hsw : swapsWith (.ListComp elt [⟨tg, iter, ifs, 0⟩] scope pos) (some (.Name y py)) spos.line X.env = pure true := by exact sw_true rfl rfl rfl (by decide +kernel)) (hsub : ∀ j ∈ is, j ∈ own.map (·.2) := by decide) (hs : ∀ x, foldedSetIterable iter X.env x = pure x := by intro _; rfl) :
    SW T X (.Assign [.Name y py] (.ListComp elt [⟨tg, iter, ifs, 0⟩] scope pos) spos) (wSet i (wLc wt g c we (own.map (·.2)))) := by
  refine PS.to (ps_setLc (g := tGx X.K T is g) (tt := tT X.K T c) (te := tE X.K T we) hc hN hy hyl hsw hi ok hg ht he hs) fun D σ H h => ?_
  obtain ⟨ω, ρ, ε, μ, k, rr, h, q1, q2, q3, q4⟩ := h
  refine lc_of hsub (kd := fun ε1 acc μ2 => k.nx (ε1.set i (some (.lst acc))) μ2) rr h fun ω' ε' μ' ds xs p H' le r' h1 h2 h3 h4 rd hk => ?_
  obtain ⟨ω2, le2, r2, rp⟩ := late_lst r' h1 h2 h3 h4 rd
  exact q1 ω2 _ μ' _ H' (le.trans le2) ⟨r2.m, r2.e.set rp i⟩ hk
theorem s_setLcC (i : Nat) {y : Str} {py spos : Pos} (hc : X.calm = true) (hN : X.N.Nodup) (hi : IX T X tg iter wt) (ok : BlkOk X.N X.env.scope scope own)
    (hg : ∀ (s : Shared) (H : Hp) (C : Addr) (cl : List (Str × Addr)) (fp : List Addr), GX T (X.blk s H scope (compEnvC scope cl C X.env) fp) tg is g) (ht : ∀ (s : Shared) (H : Hp) (C : Addr) (cl : List (Str × Addr)) (fp : List Addr), TsW T (X.blk s H scope (compEnvC scope cl C X.env) fp) ifs c)
    (he : ∀ (s : Shared) (H : Hp) (C : Addr) (cl : List (Str × Addr)) (fp : List Addr), EW T (X.blk s H scope (compEnvC scope cl C X.env) fp) elt we) (hy : X.N[i]? = some y := by rfl) (hyl : X.env.scope.names.lookup y = some .local := by rfl)
    (hsw : swapsWith (.ListComp elt [⟨tg, iter, ifs, 0⟩] scope pos) (some (.Name y py)) spos.line X.env = pure true := by exact sw_true rfl rfl rfl (by decide +kernel)) (hsub : ∀ j ∈ is, j ∈ own.map (·.2) := by decide) (hs : ∀ x, foldedSetIterable iter X.env x = pure x := by intro _; rfl) :
    SW T X (.Assign [.Name y py] (.ListComp elt [⟨tg, iter, ifs, 0⟩] scope pos) spos) (wSet i (wLcC wt g c we (own.map (·.2)))) := by
  refine PS.to (ps_setLc (g := tGx X.K T is g) (tt := tT X.K T c) (te := tE X.K T we) hc hN hy hyl hsw hi ok hg ht he hs) fun D σ H h => ?_
  obtain ⟨ω, ρ, ε, μ, k, rr, h, q1, q2, q3, q4⟩ := h
  refine lc_of hsub (kd := fun ε1 acc μ2 => k.nx (ε1.set i (some (.ref (List.length μ2)))) (μ2 ++ [Cell.lst acc])) rr h fun ω' ε' μ' ds xs p H' le r' h1 h2 h3 h4 rd hk => ?_
  obtain ⟨ω2, le2, r2, rp⟩ := late_cell r' h1 h2 h3 h4 rd
  exact q1 ω2 _ _ _ H' (le.trans le2) ⟨r2.m, r2.e.set rp i⟩ hk
end

/-! ### defs -/
mutual
/-- no reference from n on -/
def D.lo (n : Nat) : D → Bool
  | .tup ds => loL n ds
  | .lst ds => loL n ds
  | .fl ds => loL n ds
  | .ref m => decide (m < n)
  | _ => true
def loL (n : Nat) : List D → Bool
  | [] => true
  | d :: ds => d.lo n && loL n ds
end
def Cell.lo (n : Nat) : Cell → Bool
  | .lst ds => loL n ds
  | .dK kvs => kvs.all fun p => p.2.lo n
  | .ins _ fs => fs.all fun p => p.2.lo n
  | .dead => true
mutual
theorem Rep.cut {K : PySem.W.Frag} {ω : Wd} {n : Nat} : ∀ (d : D) {v : V}, Rep K ω d v → d.lo n = true → Rep K ⟨ω.φ.take n, ω.Hf⟩ d v
  | .non, _, r, _ => r
  | .bl _, _, r, _ => r
  | .int _, _, r, _ => r
  | .str _, _, r, _ => r
  | .tup ds, _, r, h => by
    obtain ⟨a, xs, e, s, l⟩ := r
    exact ⟨a, xs, e, s, RepL.cut ds l h⟩
  | .lst ds, _, r, h => by
    obtain ⟨a, xs, e, s, l⟩ := r
    exact ⟨a, xs, e, s, RepL.cut ds l h⟩
  | .fl ds, _, r, h => by
    obtain ⟨a, xs, e, s, l⟩ := r
    exact ⟨a, xs, e, s, RepL.cut ds l h⟩
  | .ty _, _, r, _ => r
  | .ref m, _, r, h => by
    obtain ⟨a, e, f⟩ := r
    have hm : m < n := of_decide_eq_true h
    exact ⟨a, by show (ω.φ.take n)[m]? = some a; rw [List.getElem?_take, if_pos hm]; exact e, f⟩
  | .glb _, _, r, _ => r
theorem RepL.cut {K : PySem.W.Frag} {ω : Wd} {n : Nat} : ∀ (ds : List D) {xs : List V}, RepL K ω ds xs → loL n ds = true → RepL K ⟨ω.φ.take n, ω.Hf⟩ ds xs
  | [], _, r, _ => r
  | d :: ds, _, r, h => by
    obtain ⟨x, t, e, a, b⟩ := r
    have h : (d.lo n && loL n ds) = true := h
    rw [Bool.and_eq_true] at h
    exact ⟨x, t, e, Rep.cut d a h.1, RepL.cut ds b h.2⟩
end
mutual
theorem Rep.loφ {K : PySem.W.Frag} {ω : Wd} : ∀ (d : D) {v : V}, Rep K ω d v → d.lo ω.φ.length = true
  | .non, _, r => rfl
  | .bl _, _, r => rfl
  | .int _, _, r => rfl
  | .str _, _, r => rfl
  | .tup ds, _, r => by
    obtain ⟨a, xs, e, s, l⟩ := r
    exact RepL.loφ ds l
  | .lst ds, _, r => by
    obtain ⟨a, xs, e, s, l⟩ := r
    exact RepL.loφ ds l
  | .fl ds, _, r => by
    obtain ⟨a, xs, e, s, l⟩ := r
    exact RepL.loφ ds l
  | .ty _, _, r => rfl
  | .ref m, _, r => by
    obtain ⟨a, e, f⟩ := r
    exact decide_eq_true (List.getElem?_eq_some_iff.mp e).1
  | .glb _, _, r => rfl
theorem RepL.loφ {K : PySem.W.Frag} {ω : Wd} : ∀ (ds : List D) {xs : List V}, RepL K ω ds xs → loL ω.φ.length ds = true
  | [], _, r => rfl
  | d :: ds, _, r => by
    obtain ⟨x, t, e, a, b⟩ := r
    show (d.lo _ && loL _ ds) = true
    rw [Rep.loφ d a, RepL.loφ ds b]
    rfl
end
theorem RepP.cut {κ : Type} {K : PySem.W.Frag} {ω : Wd} {n : Nat} : ∀ {l : List (κ × D)} {m : List (κ × V)}, RepP K ω l m → l.all (fun p => p.2.lo n) = true → RepP K ⟨ω.φ.take n, ω.Hf⟩ l m
  | _, _, .nil, _ => .nil
  | p :: l, _, .cons r t, h => by
    rw [List.all_cons, Bool.and_eq_true] at h
    exact .cons ⟨r.1, Rep.cut _ r.2 h.1⟩ (RepP.cut t h.2)
theorem RepP.loφ {κ : Type} {K : PySem.W.Frag} {ω : Wd} : ∀ {l : List (κ × D)} {m : List (κ × V)}, RepP K ω l m → l.all (fun p => p.2.lo ω.φ.length) = true
  | _, _, .nil => rfl
  | p :: l, _, .cons r t => by
    rw [List.all_cons, Rep.loφ _ r.2, RepP.loφ t]
    rfl
theorem CellAt.cut {K : PySem.W.Frag} {ω : Wd} {H : Hp} {a : Addr} {n : Nat} : ∀ {c : Cell}, CellAt K ω H a c → c.lo n = true → CellAt K ⟨ω.φ.take n, ω.Hf⟩ H a c
  | .lst ds, ⟨xs, h1, h2⟩, h => ⟨xs, h1, RepL.cut ds h2 h⟩
  | .dK kvs, ⟨xs, h1, h2⟩, h => ⟨xs, h1, RepP.cut h2 h⟩
  | .ins C fs, ⟨dx, xs, h1, h2⟩, h => ⟨dx, xs, h1, RepP.cut h2 h⟩
  | .dead, ⟨o, h1⟩, _ => ⟨o, h1⟩
theorem CellAt.loφ {K : PySem.W.Frag} {ω : Wd} {H : Hp} {a : Addr} : ∀ {c : Cell}, CellAt K ω H a c → c.lo ω.φ.length = true
  | .lst ds, ⟨xs, h1, h2⟩ => RepL.loφ ds h2
  | .dK kvs, ⟨xs, h1, h2⟩ => RepP.loφ h2
  | .ins C fs, ⟨dx, xs, h1, h2⟩ => RepP.loφ h2
  | .dead, ⟨o, h1⟩ => rfl
/-- behind a def's end: what it made may be forgotten, if nothing that stays speaks of it -/
def gc (μ0 : Mem) (k : D → Mem → Prop) (d : D) (μ' : Mem) : Prop :=
  k d μ' ∨ (d.lo μ0.length = true ∧ μ0.length ≤ μ'.length ∧ (∀ (i : Nat) (c : Cell), i < μ0.length → μ'[i]? = some c → μ0[i]? = some c ∨ c.lo μ0.length = true) ∧ k d (μ'.take μ0.length))
theorem gc_pure {μ0 : Mem} {k : D → Mem → Prop} {d : D} {junk : Mem} (hb : d.lo μ0.length = true) (h : k d μ0) : gc μ0 k d (μ0 ++ junk) :=
  .inr ⟨hb, by simp, fun i c hi e => .inl (by rw [List.getElem?_append_left hi] at e; exact e), by rw [List.take_left]; exact h⟩
theorem gc_id {μ0 μ' : Mem} {k : D → Mem → Prop} {d : D} (h : k d μ') : gc μ0 k d μ' := .inl h
def startE (N : List Str) (ds : List D) : En := ds.map some ++ List.replicate (N.length - ds.length) none
theorem startE_ok {K : PySem.W.Frag} {ω : Wd} {N : List Str} {ds : List D} {vs : List V} (r : RepL K ω ds vs) : EnvR K ω (startE N ds) (L2.start N vs) := by
  have hl := r.length
  refine ⟨by simp [startE, L2.start, hl], fun i d h => ?_⟩
  unfold startE at h
  by_cases hi : i < ds.length
  · rw [List.getElem?_append_left (by simpa using hi), List.getElem?_map] at h
    cases q : ds[i]? with
    | none => rw [q] at h; cases h
    | some e =>
      rw [q] at h
      have e1 : e = d := by simpa using h
      subst e1
      obtain ⟨v, h1, h2⟩ := r.get q
      exact ⟨v, by unfold L2.start; rw [List.getElem?_append_left (by simp; omega), List.getElem?_map, h1]; rfl, h2⟩
  · rw [List.getElem?_append_right (by simp; omega)] at h
    have := List.mem_of_getElem? h
    rw [List.mem_replicate] at this
    cases this.2
theorem gc_ok {K : PySem.W.Frag} {T : List (Addr × Str)} {ω ω' : Wd} {ρ : Hp} {μ0 μ' : Mem} {H H' : Hp} {k : D → Mem → Prop} {d : D} {v : V} {Q : VK} (r0 : Rm K T ω ρ μ0 H) (le : ω.le ω') (r : Rm K T ω' ρ μ' H') (rd : Rep K ω' d v) (h : gc μ0 k d μ')
    (q : ∀ ω' d μ' v H', ω.le ω' → Rm K T ω' ρ μ' H' → Rep K ω' d v → k d μ' → Q v H') : Q v H' := by
  rcases h with h | ⟨hb, hlen, hc, h⟩
  · exact q ω' d μ' v H' le r rd h
  · have hφ : ω'.φ.take μ0.length = ω.φ := by
      obtain ⟨t, e⟩ := le.1
      rw [← e, ← r0.len, List.take_left]
    have hr : ∀ {i : Nat} {c : Cell}, i < μ0.length → μ'[i]? = some c → c.lo μ0.length = true := fun {i c} hi e => by
      rcases hc i c hi e with e0 | hb
      · obtain ⟨a, ha⟩ : ∃ a, ω.φ[i]? = some a := ⟨_, List.getElem?_eq_getElem (by rw [r0.len]; exact hi)⟩
        have z := (r0.cells i a c ha e0).1.loφ
        rw [r0.len] at z
        exact z
      · exact hb
    refine q ⟨ω'.φ.take μ0.length, ω'.Hf⟩ d _ v H' ⟨?_, le.2⟩ ⟨r.same, r.nd.sublist (List.take_sublist _ _), by simp [r.len], fun n a c h1 h2 => ?_, r.tab, fun a o ha => ?_, r.nt⟩ (Rep.cut d rd hb) h
    · show ω.φ <+: ω'.φ.take μ0.length
      rw [hφ]
      exact List.prefix_refl _
    · have h1 : (ω'.φ.take μ0.length)[n]? = some a := h1
      rw [List.getElem?_take] at h1 h2
      by_cases hn : n < μ0.length
      · rw [if_pos hn] at h1 h2
        obtain ⟨c1, c2⟩ := r.cells n a c h1 h2
        exact ⟨c1.cut (hr hn h2), c2⟩
      · rw [if_neg hn] at h1
        cases h1
    · obtain ⟨f1, f2, f3⟩ := r.fr a o ha
      exact ⟨f1, fun z => f2 (List.mem_of_mem_take z), f3⟩
section
variable {P : Program} {w : World} {K : PySem.W.Frag} {mg : Str → Option Value} {base : Heap} {T : List (Addr × Str)}
/-- THE RULE for a def that raises nothing -/
theorem fn_w {x qual : Str} {st : Stmt} {f : Addr} {fd : FuncData} {N ps : List Str} {k : Nat} {fs : FS} (F : Fun K x qual st f fd) (S : FnScope N ps (defScope st)) (len : ∀ ds μ k, fs ds μ k → ds.length = ps.length)
    (hbody : ∀ (cdv : Value) (A : Around) (outer : List Env) (s : Shared) (H : Hp) (E : XK), Room k (A.deeper (PyProof.Rows.envOfC qual (defScope st) s.heap.objs.size f cdv)) →
      ∃ t, BW T (cxOf CX0 P w K mg base N qual (defScope st) f cdv A outer s H E).nox (defBody st) t ∧ ∀ ds μ k, fs ds μ k → t { nx := fun _ μ' => gc μ k .non μ', rt := gc μ k } (startE N ds) μ) : FnOk P w K mg base CX0 (k + 1) f fd ps (spOf K T fs) := by
  refine F.ok S (fun vs H Q E h => ?_) (fun cdv A outer s H vs Q E hr h => ?_)
  · obtain ⟨ω, ρ, ds, μ, k, rr, rd, h, q⟩ := h
    rw [rd.length]
    exact len ds μ k h
  · obtain ⟨t, ht, hq⟩ := hbody cdv A outer s H E hr
    obtain ⟨ω, ρ, ds, μ, kk, rr, rd, h, q⟩ := h
    refine ⟨_, ht, ω, ρ, startE N ds, μ, _, ⟨rr, startE_ok rd⟩, hq ds μ kk h, ?_, ?_, ?_, ?_⟩
    · exact fun ω' ε' μ' σ' H' le r' h' => gc_ok (d := .non) (v := .non) rr le r'.m rfl h' q
    · exact fun ω' μ' d v H' le r' rd' h' => gc_ok rr le r' rd' h' q
    · exact fun ω' ε' μ' σ' H' le r' h' => h'.elim
    · exact fun ω' ε' μ' σ' H' le r' h' => h'.elim
end
end WL
/-! The W layer, part 4: operations on values. -/
namespace WL
open PySem PySem.Spec L2

section
variable {K : PySem.W.Frag} {T : List (Addr × Str)}
theorem repI {ω : Wd} {i : Int} : Rep K ω (.int i) (.int i) := rfl
theorem repB {ω : Wd} {i : Bool} : Rep K ω (.bl i) (.bl i) := rfl
theorem repS {ω : Wd} {i : Str} : Rep K ω (.str i) (.str i) := rfl
/-! ### numbers -/
def roI (C : Int → Int → Prop) (g : Int → Int → D) : RO := fun _ x y k => match x, y with
  | .int i, .int j => C i j ∧ k (g i j)
  | _, _ => False
def roI0 (g : Int → Int → D) : RO := fun _ x y k => match x, y with
  | .int i, .int j => k (g i j)
  | _, _ => False
theorem ok_I0 {g : Int → Int → V} {g' : Int → Int → D} (hg : ∀ i j (ω : Wd), Rep K ω (g' i j) (g i j)) : ROk K T (rI0 g) (roI0 g') := by
  intro ω ρ μ H x y vx vy k Q r rx ry h q
  unfold roI0 at h
  split at h
  · exact ⟨_, _, rx, ry, q ω _ _ H (Wd.le.refl _) r (hg _ _ _) h⟩
  · exact h.elim
theorem ok_I {C : Int → Int → Prop} {g : Int → Int → V} {g' : Int → Int → D} (hg : ∀ i j (ω : Wd), Rep K ω (g' i j) (g i j)) : ROk K T (rI C g) (roI C g') := by
  intro ω ρ μ H x y vx vy k Q r rx ry h q
  unfold roI at h
  split at h
  · exact ⟨_, _, rx, ry, h.1, q ω _ _ H (Wd.le.refl _) r (hg _ _ _) h.2⟩
  · exact h.elim
def CDivZ (_ j : Int) : Prop := j ≠ 0 ∧ j.natAbs.log2 < 9000
variable {X : Cx}
theorem op_mulZ : OpR X (binaryOp .Mult) (rI IntMulOk fun i j => .int (i * j)) := opI fun _ _ _ _ _ _ _ hc q => PyProof.Rows.mul_int q hc
theorem op_fdivZ : OpR X (binaryOp .FloorDiv) (rI CDivZ fun i j => .int (i.fdiv j)) := opI fun i j _ _ _ _ _ hc q => PyProof.Rows.floordiv_int hc.1 q (.inl (PyProof.noPylong_of_log2 hc.2))
def roSub := roI0 fun i j => .int (i - j)
def roMulI := roI IntMulOk fun i j => .int (i * j)
def roFdiv := roI CDivZ fun i j => .int (i.fdiv j)
def roMod := roI (fun _ j => j ≠ 0) fun i j => .int (i.fmod j)
def roPow := roI CPow fun i j => .int (i ^ j.toNat)
def roLt := roI0 fun i j => .bl (decide (i < j))
def roLe := roI0 fun i j => .bl (decide (i ≤ j))
def roGt := roI0 fun i j => .bl (decide (j < i))
def roGe := roI0 fun i j => .bl (decide (j ≤ i))
theorem ok_sub : ROk K T (rI0 fun i j => .int (i - j)) roSub := ok_I0 fun _ _ _ => rfl
theorem ok_mulI : ROk K T (rI IntMulOk fun i j => .int (i * j)) roMulI := ok_I fun _ _ _ => rfl
theorem ok_fdiv : ROk K T (rI CDivZ fun i j => .int (i.fdiv j)) roFdiv := ok_I fun _ _ _ => rfl
theorem ok_mod : ROk K T (rI (fun _ j => j ≠ 0) fun i j => .int (i.fmod j)) roMod := ok_I fun _ _ _ => rfl
theorem ok_pow : ROk K T (rI CPow fun i j => .int (i ^ j.toNat)) roPow := ok_I fun _ _ _ => rfl
theorem ok_lt : ROk K T (rI0 fun i j => .bl (decide (i < j))) roLt := ok_I0 fun _ _ _ => rfl
theorem ok_le : ROk K T (rI0 fun i j => .bl (decide (i ≤ j))) roLe := ok_I0 fun _ _ _ => rfl
theorem ok_gt : ROk K T (rI0 fun i j => .bl (decide (j < i))) roGt := ok_I0 fun _ _ _ => rfl
theorem ok_ge : ROk K T (rI0 fun i j => .bl (decide (j ≤ i))) roGe := ok_I0 fun _ _ _ => rfl
def uoNeg : UO := fun _ x k => match x with
  | .int i => k (.int (-i))
  | _ => False
theorem ok_neg : UOk K T (rU fun i => .int (-i)) uoNeg := by
  intro ω ρ μ H x vx k Q r rx h q
  unfold uoNeg at h
  split at h
  · exact ⟨_, rx, q ω _ _ H (Wd.le.refl _) r repI h⟩
  · exact h.elim

/-! ### + of numbers, texts, lists, tuples -/
def rCatM : R2 := rCat
def rAddAll (K : PySem.W.Frag) : R2 := fun x y H Q => (rI0 (fun i j => .int (i + j)) x y H Q ∨ (∃ i j, x = .str i ∧ y = .str j ∧ i.length + j.length ≤ sizeLine ∧ Q (.str (i ++ j)) H)) ∨ (rCat x y H Q ∨ rCatA K x y H Q)
theorem op_addAll : OpR X (binaryOp .Add) (rAddAll X.K) := OpR.or (OpR.or op_add op_add_str) (OpR.or op_cat op_catA)
def roAdd : RO := fun μ x y k => match x, y with
  | .int i, .int j => k (.int (i + j))
  | .str a, .str b => a.length + b.length ≤ sizeLine ∧ k (.str (a ++ b))
  | .tup as, .tup bs => as.length + bs.length ≤ sizeLine ∧ k (.tup (as ++ bs))
  | a, b => match lviewM μ a, lviewM μ b with
    | some as, some bs => as.length + bs.length ≤ sizeLine ∧ k (.lst (as ++ bs))
    | _, _ => False
theorem ok_add : ROk K T (rAddAll K) roAdd := by
  intro ω ρ μ H x y vx vy k Q r rx ry h q
  unfold roAdd at h
  split at h
  · exact .inl (.inl ⟨_, _, rx, ry, q ω _ _ H (Wd.le.refl _) r repI h⟩)
  · exact .inl (.inr ⟨_, _, rx, ry, h.1, q ω _ _ H (Wd.le.refl _) r repS h.2⟩)
  · rename_i as bs
    obtain ⟨a, xs, e1, s1, l1⟩ := rx
    obtain ⟨b, ys, e2, s2, l2⟩ := ry
    refine .inr (.inr ⟨a, b, xs, ys, e1, e2, Same.seqT r.same s1, Same.seqT r.same s2, by rw [l1.length, l2.length]; exact h.1, ?_⟩)
    refine ⟨fun hx => ?_, fun hx hy => ?_, fun hx hy p hp => ?_⟩
    all_goals skip
    · have e : as = [] := by
        have := l1.length
        rw [hx] at this
        exact List.length_eq_zero_iff.mp this.symm
      subst e
      exact q ω (.tup ([] ++ bs)) _ H (Wd.le.refl _) r ⟨b, ys, rfl, s2, l2⟩ h.2
    · have e : bs = [] := by
        have := l2.length
        rw [hy] at this
        exact List.length_eq_zero_iff.mp this.symm
      subst e
      rw [List.append_nil] at h
      exact q ω (.tup as) _ H (Wd.le.refl _) r ⟨a, xs, rfl, s1, l1⟩ h.2
    · obtain ⟨le2, r2⟩ := r.froze (o := .tup (xs ++ ys)) hp
      exact q _ (.tup (as ++ bs)) _ _ le2 r2 ⟨p, xs ++ ys, rfl, .inl (.inl upd_same), RepL.append (RepL.mono le2 _ l1) (RepL.mono le2 _ l2)⟩ h.2
  · split at h
    · rename_i as bs h1 h2
      obtain ⟨a, xs, e1, s1, l1⟩ := r.listM rx h1
      obtain ⟨b, ys, e2, s2, l2⟩ := r.listM ry h2
      refine .inr (.inl ⟨a, b, xs, ys, e1, e2, s1, s2, by rw [l1.length, l2.length]; exact h.1, fun p hp => ?_⟩)
      obtain ⟨le2, r2⟩ := r.froze (o := .lst (xs ++ ys)) hp
      exact q _ (.lst (as ++ bs)) _ _ le2 r2 ⟨p, xs ++ ys, rfl, upd_same, RepL.append (RepL.mono le2 _ l1) (RepL.mono le2 _ l2)⟩ h.2
    · exact h.elim
/-- * of numbers; of a list by a number -/
def rMulAll (K : PySem.W.Frag) : R2 := fun x y H Q => rI IntMulOk (fun i j => .int (i * j)) x y H Q ∨ rRep x y H Q
theorem op_mulAll : OpR X (binaryOp .Mult) (rMulAll X.K) := OpR.or op_mulZ op_rep
def roMul : RO := fun μ x y k => match x, y with
  | .int i, .int j => IntMulOk i j ∧ k (.int (i * j))
  | a, .int j => match lviewM μ a with
    | some as => -(2 ^ 63) ≤ j ∧ j < 2 ^ 63 ∧ as.length * j.toNat ≤ sizeLine ∧ k (.lst (List.replicate j.toNat as).flatten)
    | _ => False
  | _, _ => False
theorem RepL.rep {ω : Wd} {ds : List D} {xs : List V} (h : RepL K ω ds xs) : ∀ n : Nat, RepL K ω (List.replicate n ds).flatten (List.replicate n xs).flatten
  | 0 => rfl
  | n + 1 => by
    rw [List.replicate_succ, List.replicate_succ, List.flatten_cons, List.flatten_cons]
    exact RepL.append h (RepL.rep h n)
theorem ok_mul : ROk K T (rMulAll K) roMul := by
  intro ω ρ μ H x y vx vy k Q r rx ry h q
  unfold roMul at h
  split at h
  · exact .inl ⟨_, _, rx, ry, h.1, q ω _ _ H (Wd.le.refl _) r repI h.2⟩
  · rename_i j hn
    split at h
    · rename_i as h1
      obtain ⟨a, xs, e1, s1, l1⟩ := r.listM rx h1
      refine .inr ⟨a, j, xs, e1, ry, s1, h.1, h.2.1, by rw [l1.length]; exact h.2.2.1, fun p hp => ?_⟩
      obtain ⟨le2, r2⟩ := r.froze (o := .lst (List.replicate j.toNat xs).flatten) hp
      exact q _ (.lst (List.replicate j.toNat as).flatten) _ _ le2 r2 ⟨p, _, rfl, upd_same, (RepL.mono le2 _ l1).rep _⟩ h.2.2.2
    · exact h.elim
  · exact h.elim

/-! ### == and != -/
mutual
def toPy : D → PyData
  | .non => .none
  | .bl b => .bool b
  | .int i => .int i
  | .str x => .str x
  | .tup ds => .tuple (toPyL ds)
  | .lst ds => .list (toPyL ds)
  | .fl ds => .list (toPyL ds)
  | .ref _ => .dict []
  | .glb _ => .dict []
  | .ty _ => .dict []
def toPyL : List D → List PyData
  | [] => []
  | d :: ds => toPy d :: toPyL ds
end
mutual
theorem dp_of {ω : Wd} {H : Hp} (s : Same ω.Hf H) : ∀ (d : D) {v : V}, Rep K ω d v → PyData.canLay0 (toPy d) = true → Dp K H v (toPy d)
  | .non, _, r, _ => by
    have r : _ = V.non := r
    subst r
    exact .non
  | .bl b, _, r, _ => by
    have r : _ = V.bl b := r
    subst r
    exact .bl b
  | .int i, _, r, _ => by
    have r : _ = V.int i := r
    subst r
    exact .int i
  | .str x, _, r, _ => by
    have r : _ = V.str x := r
    subst r
    exact .str x
  | .tup ds, _, r, h => by
    obtain ⟨a, xs, e, q, l⟩ := r
    subst e
    exact .tup (Same.seqT s q) (dpL_of s ds l (by simpa [toPy, PyData.canLay0] using h))
  | .lst ds, _, r, h => by
    obtain ⟨a, xs, e, q, l⟩ := r
    subst e
    exact .lst (.inl (.inl (s _ _ q))) (dpL_of s ds l (by simpa [toPy, PyData.canLay0] using h))
  | .fl ds, _, r, h => by
    obtain ⟨a, xs, e, q, l⟩ := r
    subst e
    exact .lst (s.seq q) (dpL_of s ds l (by simpa [toPy, PyData.canLay0] using h))
  | .ref _, _, _, h => by simp [toPy, PyData.canLay0] at h
  | .glb _, _, _, h => by simp [toPy, PyData.canLay0] at h
  | .ty _, _, _, h => by simp [toPy, PyData.canLay0] at h
theorem dpL_of {ω : Wd} {H : Hp} (s : Same ω.Hf H) : ∀ (ds : List D) {xs : List V}, RepL K ω ds xs → PyData.canLayAll0 (toPyL ds) = true → DpAll K H xs (toPyL ds)
  | [], _, r, _ => by
    have r : _ = ([] : List V) := r
    subst r
    exact .nil
  | d :: ds, _, r, h => by
    obtain ⟨x, t, e, a, b⟩ := r
    subst e
    have h' : PyData.canLay0 (toPy d) = true ∧ PyData.canLayAll0 (toPyL ds) = true := by simpa [toPyL, PyData.canLayAll0] using h
    exact .cons (dp_of s d a h'.1) (dpL_of s ds b h'.2)
end
/-- a cell's list as it stands -/
def unref (μ : Mem) : D → D
  | .ref n => match μ[n]? with
    | some (.lst ds) => .lst ds
    | _ => .ref n
  | d => d
theorem dp_unref {ω : Wd} {ρ : Hp} {μ : Mem} {H : Hp} {d : D} {v : V} (r : Rm K T ω ρ μ H) (rd : Rep K ω d v) (h : PyData.canLay0 (toPy (unref μ d)) = true) : Dp K H v (toPy (unref μ d)) := by
  cases d with
  | ref n =>
    obtain ⟨a, e, f⟩ := rd
    have eu : unref μ (.ref n) = (match μ[n]? with | some (.lst ds) => .lst ds | _ => .ref n) := rfl
    rw [eu] at h ⊢
    split at h
    · rename_i ds hm
      obtain ⟨⟨xs, h1, h2⟩, _⟩ := r.cells n a _ e hm
      subst f
      exact .lst (.inl (.inl h1)) (dpL_of r.same ds h2 (by simpa [toPy, PyData.canLay0] using h))
    · simp [toPy, PyData.canLay0] at h
  | _ => exact dp_of r.same _ rd h
def eqGen (μ : Mem) (x y : D) (k : Bool → Prop) : Prop := SeqAt.shaped (toPy (unref μ x)) = true ∧ SeqAt.shaped (toPy (unref μ y)) = true ∧ k (PyData.eqv (toPy (unref μ x)) (toPy (unref μ y)))
def roEq : RO := fun μ x y k => match x, y with
  | .int i, .int j => k (.bl (decide (i = j)))
  | .str i, .str j => k (.bl (decide (i = j)))
  | .bl i, .bl j => k (.bl (decide (i = j)))
  | a, b => eqGen μ a b fun c => k (.bl c)
def roNe : RO := fun μ x y k => match x, y with
  | .int i, .int j => k (.bl (!decide (i = j)))
  | .str i, .str j => k (.bl (!decide (i = j)))
  | .bl i, .bl j => k (.bl (!decide (i = j)))
  | a, b => eqGen μ a b fun c => k (.bl (!c))
theorem op_eqA (hu : X.A.units + 64 < cLine) : OpR X (compareOp .Eq) (fun x y H Q => rEq x y H Q ∨ rEqD X.K x y H Q) := OpR.or op_eq (op_eqD hu)
theorem op_neA (hu : X.A.units + 64 < cLine) : OpR X (compareOp .NotEq) (fun x y H Q => rNe x y H Q ∨ rNeD X.K x y H Q) := OpR.or op_ne (op_neD hu)
theorem dI {i j : Int} : decide (V.int i = V.int j) = decide (i = j) := by simp
theorem dS {i j : Str} : decide (V.str i = V.str j) = decide (i = j) := by simp
theorem dB {i j : Bool} : decide (V.bl i = V.bl j) = decide (i = j) := by simp
theorem ok_eq : ROk K T (fun x y H Q => rEq x y H Q ∨ rEqD K x y H Q) roEq := by
  intro ω ρ μ H x y vx vy k Q r rx ry h q
  unfold roEq at h
  split at h
  · have rx : vx = _ := rx
    have ry : vy = _ := ry
    subst rx ry
    exact .inl ⟨rfl, by rw [dI]; exact q ω _ _ H (Wd.le.refl _) r repB h⟩
  · have rx : vx = _ := rx
    have ry : vy = _ := ry
    subst rx ry
    exact .inl ⟨rfl, by rw [dS]; exact q ω _ _ H (Wd.le.refl _) r repB h⟩
  · have rx : vx = _ := rx
    have ry : vy = _ := ry
    subst rx ry
    exact .inl ⟨rfl, by rw [dB]; exact q ω _ _ H (Wd.le.refl _) r repB h⟩
  · obtain ⟨h1, h2, h3⟩ := h
    exact .inr ⟨_, _, dp_unref r rx (SeqAt.canLay_of_shaped h1), dp_unref r ry (SeqAt.canLay_of_shaped h2), h1, h2, q ω _ _ H (Wd.le.refl _) r repB h3⟩
theorem ok_ne : ROk K T (fun x y H Q => rNe x y H Q ∨ rNeD K x y H Q) roNe := by
  intro ω ρ μ H x y vx vy k Q r rx ry h q
  unfold roNe at h
  split at h
  · have rx : vx = _ := rx
    have ry : vy = _ := ry
    subst rx ry
    exact .inl ⟨rfl, by rw [dI]; exact q ω _ _ H (Wd.le.refl _) r repB h⟩
  · have rx : vx = _ := rx
    have ry : vy = _ := ry
    subst rx ry
    exact .inl ⟨rfl, by rw [dS]; exact q ω _ _ H (Wd.le.refl _) r repB h⟩
  · have rx : vx = _ := rx
    have ry : vy = _ := ry
    subst rx ry
    exact .inl ⟨rfl, by rw [dB]; exact q ω _ _ H (Wd.le.refl _) r repB h⟩
  · obtain ⟨h1, h2, h3⟩ := h
    exact .inr ⟨_, _, dp_unref r rx (SeqAt.canLay_of_shaped h1), dp_unref r ry (SeqAt.canLay_of_shaped h2), h1, h2, q ω _ _ H (Wd.le.refl _) r repB h3⟩
/-! ### is None -/
def isNon : D → Bool
  | .non => true
  | _ => false
def roIs : RO := fun _ x y k => match y with
  | .non => k (.bl (isNon x))
  | _ => False
def roIsNot : RO := fun _ x y k => match y with
  | .non => k (.bl (!isNon x))
  | _ => False
theorem isNon_rep {ω : Wd} {d : D} {v : V} (r : Rep K ω d v) : decide (v = .non) = isNon d := by
  cases d with
  | non => have r : v = _ := r; subst r; rfl
  | bl b => have r : v = _ := r; subst r; rfl
  | int b => have r : v = _ := r; subst r; rfl
  | str b => have r : v = _ := r; subst r; rfl
  | ty b => have r : v = _ := r; subst r; rfl
  | glb b => have r : v = _ := r; subst r; rfl
  | tup ds => obtain ⟨a, xs, e, _⟩ := r; subst e; rfl
  | lst ds => obtain ⟨a, xs, e, _⟩ := r; subst e; rfl
  | fl ds => obtain ⟨a, xs, e, _⟩ := r; subst e; rfl
  | ref n => obtain ⟨a, _, e⟩ := r; subst e; rfl
theorem ok_is : ROk K T (fun x y H Q => y = .non ∧ Q (.bl (decide (x = .non))) H) roIs := by
  intro ω ρ μ H x y vx vy k Q r rx ry h q
  unfold roIs at h
  split at h
  · exact ⟨ry, by rw [isNon_rep rx]; exact q ω _ _ H (Wd.le.refl _) r repB h⟩
  · exact h.elim
theorem ok_isnot : ROk K T (fun x y H Q => y = .non ∧ Q (.bl (!decide (x = .non))) H) roIsNot := by
  intro ω ρ μ H x y vx vy k Q r rx ry h q
  unfold roIsNot at h
  split at h
  · exact ⟨ry, by rw [isNon_rep rx]; exact q ω _ _ H (Wd.le.refl _) r repB h⟩
  · exact h.elim
/-! ### subscripts, slices -/
theorem atI_rep {ω : Wd} {ds : List D} {xs : List V} {i : Int} {d : D} (l : RepL K ω ds xs) (h : atI ds i = some d) : ∃ v, atI xs i = some v ∧ Rep K ω d v := by
  unfold atI at h ⊢
  rw [l.length]
  cases q : ixN ds.length i with
  | none => rw [q] at h; cases h
  | some j =>
    rw [q] at h
    obtain ⟨v, h1, h2⟩ := l.get (i := j) h
    exact ⟨v, h1, h2⟩
def roIx : RO := fun μ x y k => match y with
  | .int i => (match x with
    | .tup ds => (match atI ds i with
      | some d => k d
      | none => False)
    | .str z => z.length ≤ sizeLine ∧ (match atI z.cps.toList i with
      | some c => k (.str ⟨#[c]⟩)
      | none => False)
    | a => match lview μ a with
      | some ds => (match atI ds i with
        | some d => k d
        | none => False)
      | none => False)
  | _ => False
theorem ok_ix : ROk K T (rIx K) roIx := by
  intro ω ρ μ H x y vx vy k Q r rx ry h q
  unfold roIx at h
  split at h
  · rename_i i
    split at h
    · rename_i ds
      split at h
      · rename_i d hd
        obtain ⟨a, xs, e1, s1, l1⟩ := rx
        obtain ⟨v, h1, h2⟩ := atI_rep l1 hd
        exact .inr (.inl ⟨a, xs, i, v, e1, ry, Same.seqT r.same s1, h1, q ω d v H (Wd.le.refl _) r h2 h⟩)
      · exact h.elim
    · rename_i z
      split at h
      · rename_i c hc
        exact .inr (.inr ⟨z, i, c, rx, ry, h.1, hc, q ω _ _ H (Wd.le.refl _) r repS h.2⟩)
      · exact h.2.elim
    · split at h
      · rename_i ds hl
        split at h
        · rename_i d hd
          obtain ⟨a, xs, e1, s1, l1⟩ := r.list rx hl
          obtain ⟨v, h1, h2⟩ := atI_rep l1 hd
          exact .inl ⟨a, xs, i, v, e1, ry, s1, h1, q ω d v H (Wd.le.refl _) r h2 h⟩
        · exact h.elim
      · exact h.elim
  · exact h.elim
/-- a slice, step 1 -/
abbrev SO := Mem → D → Option Int → Option Int → (D → Prop) → Prop
def SOk (K : PySem.W.Frag) (T : List (Addr × Str)) (r : V → Option Int → Option Int → Hp → VK → Prop) (ro : SO) : Prop := ∀ (ω : Wd) (ρ : Hp) (μ : Mem) (H : Hp) (x : D) (vx : V) (lo hi : Option Int) (k : D → Prop) (Q : VK), Rm K T ω ρ μ H → Rep K ω x vx → ro μ x lo hi k →
  (∀ ω' z vz H', ω.le ω' → Rm K T ω' ρ μ H' → Rep K ω' z vz → k z → Q vz H') → r vx lo hi H Q
def wSl (ro : SO) (we : WE) (wl wh : WO) : WE := fun ε μ k => we ε μ fun x ε1 μ1 => wl ε1 μ1 fun l ε2 μ2 => wh ε2 μ2 fun u ε3 μ3 => ro μ3 x l u fun z => k z ε3 μ3
def wNoPart : WO := fun ε μ k => k none ε μ
def wPart (we : WE) : WO := fun ε μ k => we ε μ fun d ε1 μ1 => match d with
  | .int i => k (some i) ε1 μ1
  | _ => False
section
variable {e : Expr} {we : WE} {lo hi : Option Expr} {wl wh : WO} {pos p2 : Pos}
theorem o_none : OW T X none wNoPart := by
  refine PO.to po_none fun σ H Q h => ?_
  obtain ⟨ω, ρ, ε, μ, k, rr, h, q⟩ := h
  exact q ω ε μ none H (Wd.le.refl _) rr h
theorem o_some (he : EW T X e we) : OW T X (some e) (wPart we) := by
  refine PO.to (po_some he) fun σ H Q h => ?_
  obtain ⟨ω, ρ, ε, μ, k, rr, h, q⟩ := h
  refine ⟨ω, ρ, ε, μ, _, rr, h, fun ω1 ε1 μ1 d v H1 le1 r1 rd h1 => ?_⟩
  split at h1
  · rename_i i
    exact ⟨i, rd, q ω1 ε1 μ1 (some i) H1 le1 r1 h1⟩
  · exact h1.elim
theorem e_slice {r : V → Option Int → Option Int → Hp → VK → Prop} {ro : SO} (hr : SlR X r) (ho : SOk X.K T r ro) (he : EW T X e we) (hl : OW T X lo wl) (hu : OW T X hi wh) : EW T X (.Subscript e (.Slice lo hi none p2) pos) (wSl ro we wl wh) := by
  refine PE.to (pe_slice hr he hl hu) fun σ H Q h => ?_
  obtain ⟨ω, ρ, ε, μ, k, rr, h, q⟩ := h
  refine ⟨ω, ρ, ε, μ, _, rr, h, fun ω1 ε1 μ1 x vx H1 le1 r1 rx h1 => ?_⟩
  refine ⟨ω1, ρ, ε1, μ1, _, r1, h1, fun ω2 ε2 μ2 l H2 le2 r2 h2 => ?_⟩
  refine ⟨ω2, ρ, ε2, μ2, _, r2, h2, fun ω3 ε3 μ3 u H3 le3 r3 h3 => ?_⟩
  refine ho ω3 ρ μ3 H3 x vx l u _ Q r3.m (Rep.mono (le2.trans le3) x rx) h3 fun ω4 z vz H4 le4 r4 rz h4 => ?_
  exact q ω4 ε3 μ3 z vz H4 (le1.trans (le2.trans (le3.trans le4))) ⟨r4, r3.e.mono le4⟩ rz h4
end
def cutD (ds : List D) (lo hi : Option Int) : List D := (ds.drop (HT.sIx ds.length 0 lo)).take (HT.sIx ds.length ds.length hi - HT.sIx ds.length 0 lo)
theorem cut_rep {ω : Wd} {ds : List D} {xs : List V} (l : RepL K ω ds xs) (lo hi : Option Int) : RepL K ω (cutD ds lo hi) (cutV xs lo hi) := by
  unfold cutD cutV
  rw [l.length]
  exact RepL.take _ (RepL.drop _ l)
def soAll : SO := fun μ x lo hi k => match x with
  | .tup ds => k (.tup (cutD ds lo hi))
  | .str z => z.length ≤ sizeLine ∧ k (.str (Txt.slice z lo hi))
  | a => match lview μ a with
    | some ds => k (.lst (cutD ds lo hi))
    | none => False
def rSlAll (K : PySem.W.Frag) : V → Option Int → Option Int → Hp → VK → Prop := fun x lo hi H Q => rSlL K x lo hi H Q ∨ (rSlA K x lo hi H Q ∨ C8.rSlX x lo hi H Q)
theorem sl_all : SlR X (rSlAll X.K) := SlR.or sl_list (SlR.or sl_tupA C8.sl_txt)
theorem cutD_whole {ds : List D} {lo hi : Option Int} (h : HT.sIx ds.length 0 lo = 0 ∧ HT.sIx ds.length ds.length hi = ds.length) : cutD ds lo hi = ds := by
  unfold cutD
  rw [h.1, h.2, List.drop_zero, Nat.sub_zero, List.take_length]
theorem ok_slice : SOk K T (rSlAll K) soAll := by
  intro ω ρ μ H x vx lo hi k Q r rx h q
  unfold soAll at h
  split at h
  · rename_i ds
    obtain ⟨a, xs, e1, s1, l1⟩ := rx
    refine .inr (.inl ⟨a, xs, e1, Same.seqT r.same s1, fun hw => ?_, fun hw p hp => ?_⟩)
    · rw [l1.length] at hw
      rw [cutD_whole hw] at h
      exact q ω (.tup ds) _ H (Wd.le.refl _) r ⟨a, xs, rfl, s1, l1⟩ h
    · obtain ⟨le2, r2⟩ := r.froze (o := .tup (cutV xs lo hi)) hp
      exact q _ (.tup (cutD ds lo hi)) _ _ le2 r2 ⟨p, _, rfl, .inl (.inl upd_same), cut_rep (RepL.mono le2 _ l1) lo hi⟩ h
  · rename_i z
    exact .inr (.inr ⟨z, rx, h.1, q ω _ _ H (Wd.le.refl _) r repS h.2⟩)
  · split at h
    · rename_i ds hl
      obtain ⟨a, xs, e1, s1, l1⟩ := r.list rx hl
      refine .inl ⟨a, xs, e1, s1, fun p hp => ?_⟩
      obtain ⟨le2, r2⟩ := r.froze (o := .lst (cutV xs lo hi)) hp
      exact q _ (.lst (cutD ds lo hi)) _ _ le2 r2 ⟨p, _, rfl, upd_same, cut_rep (RepL.mono le2 _ l1) lo hi⟩ h
    · exact h.elim
/-! ### built-in functions -/
def coLen : CO := fun μ xs k => match xs with
  | [.tup ds] => k (.int ds.length)
  | [.str z] => z.length ≤ sizeLine ∧ k (.int z.length)
  | [a] => (match lview μ a with
    | some ds => k (.int ds.length)
    | none => False)
  | _ => False
def rLenAll (K : PySem.W.Frag) : List V → Hp → VK → Prop := fun xs H Q => (∃ p ys, xs = [.ref p] ∧ (SqL K H p ys ∨ SqT K H p ys) ∧ Q (.int ys.length) H) ∨ (∃ z, xs = [.str z] ∧ z.length ≤ sizeLine ∧ Q (.int z.length) H)
theorem cr_len : CallR X (.builtin "len") (rLenAll X.K) := CallR.or call_len_seq call_len_str
theorem RepL.one {ω : Wd} {d : D} {vs : List V} (h : RepL K ω [d] vs) : ∃ v, vs = [v] ∧ Rep K ω d v := by
  obtain ⟨v, t, e, a, b⟩ := h
  have b : t = [] := b
  subst b
  exact ⟨v, e, a⟩
theorem RepL.two {ω : Wd} {d1 d2 : D} {vs : List V} (h : RepL K ω [d1, d2] vs) : ∃ v w, vs = [v, w] ∧ Rep K ω d1 v ∧ Rep K ω d2 w := by
  obtain ⟨v, t, e, a, b⟩ := h
  obtain ⟨w, e2, c⟩ := RepL.one b
  subst e2
  exact ⟨v, w, e, a, c⟩
theorem ok_len : COk K T (rLenAll K) coLen := by
  intro ω ρ μ H xs vs k Q r rx h q
  unfold coLen at h
  split at h
  · obtain ⟨v, e, a, ys, e1, s1, l1⟩ := RepL.one rx
    subst e e1
    exact .inl ⟨a, ys, rfl, .inr (Same.seqT r.same s1), by rw [l1.length]; exact q ω _ _ H (Wd.le.refl _) r repI h⟩
  · obtain ⟨v, e, e1⟩ := RepL.one rx
    have e1 : v = _ := e1
    subst e e1
    exact .inr ⟨_, rfl, h.1, q ω _ _ H (Wd.le.refl _) r repI h.2⟩
  · split at h
    · rename_i ds hl
      obtain ⟨v, e, rd⟩ := RepL.one rx
      obtain ⟨a, ys, e1, s1, l1⟩ := r.list rd hl
      subst e e1
      exact .inl ⟨a, ys, rfl, .inl s1, by rw [l1.length]; exact q ω _ _ H (Wd.le.refl _) r repI h⟩
    · exact h.elim
  · exact h.elim
def coInt : CO := fun μ xs k => match xs with
  | [.int i] => k (.int i)
  | [.bl b] => k (.int (if b then 1 else 0))
  | _ => False
theorem ok_int : COk K T (fun xs H Q => (∃ i, xs = [.int i] ∧ Q (.int i) H) ∨ ∃ k, xs = [.bl k] ∧ Q (.int (if k then 1 else 0)) H) coInt := by
  intro ω ρ μ H xs vs k Q r rx h q
  unfold coInt at h
  split at h
  · obtain ⟨v, e, e1⟩ := RepL.one rx
    have e1 : v = _ := e1
    subst e e1
    exact .inl ⟨_, rfl, q ω _ _ H (Wd.le.refl _) r repI h⟩
  · obtain ⟨v, e, e1⟩ := RepL.one rx
    have e1 : v = _ := e1
    subst e e1
    exact .inr ⟨_, rfl, q ω _ _ H (Wd.le.refl _) r repI h⟩
  · exact h.elim
def coAbs : CO := fun μ xs k => match xs with
  | [.int i] => k (.int (if i < 0 then -i else i))
  | _ => False
theorem ok_abs : COk K T (fun xs H Q => ∃ i, xs = [.int i] ∧ Q (.int (if i < 0 then -i else i)) H) coAbs := by
  intro ω ρ μ H xs vs k Q r rx h q
  unfold coAbs at h
  split at h
  · obtain ⟨v, e, e1⟩ := RepL.one rx
    have e1 : v = _ := e1
    subst e e1
    exact ⟨_, rfl, q ω _ _ H (Wd.le.refl _) r repI h⟩
  · exact h.elim
def coMax2 : CO := fun μ xs k => match xs with
  | [.int i, .int j] => k (.int (if j > i then j else i))
  | _ => False
theorem ok_max2 : COk K T (fun xs H Q => ∃ i j, xs = [.int i, .int j] ∧ Q (.int (if j > i then j else i)) H) coMax2 := by
  intro ω ρ μ H xs vs k Q r rx h q
  unfold coMax2 at h
  split at h
  · obtain ⟨v, w, e, e1, e2⟩ := RepL.two rx
    have e1 : v = _ := e1
    have e2 : w = _ := e2
    subst e e1 e2
    exact ⟨_, _, rfl, q ω _ _ H (Wd.le.refl _) r repI h⟩
  · exact h.elim
def coMin2 : CO := fun μ xs k => match xs with
  | [.int i, .int j] => k (.int (if j < i then j else i))
  | _ => False
theorem ok_min2 : COk K T (fun xs H Q => ∃ i j, xs = [.int i, .int j] ∧ Q (.int (if j < i then j else i)) H) coMin2 := by
  intro ω ρ μ H xs vs k Q r rx h q
  unfold coMin2 at h
  split at h
  · obtain ⟨v, w, e, e1, e2⟩ := RepL.two rx
    have e1 : v = _ := e1
    have e2 : w = _ := e2
    subst e e1 e2
    exact ⟨_, _, rfl, q ω _ _ H (Wd.le.refl _) r repI h⟩
  · exact h.elim
/-- the numbers, the truths of a list -/
def intsD : List D → Option (List Int)
  | [] => some []
  | .int i :: ds => (intsD ds).map (i :: ·)
  | _ => none
def blsD : List D → Option (List Bool)
  | [] => some []
  | .bl i :: ds => (blsD ds).map (i :: ·)
  | _ => none
theorem intsD_map : ∀ ns : List Int, intsD (ns.map D.int) = some ns
  | [] => rfl
  | n :: ns => by
    show (intsD (ns.map D.int)).map (n :: ·) = _
    rw [intsD_map ns]
    rfl
theorem blsD_map : ∀ ns : List Bool, blsD (ns.map D.bl) = some ns
  | [] => rfl
  | n :: ns => by
    show (blsD (ns.map D.bl)).map (n :: ·) = _
    rw [blsD_map ns]
    rfl
theorem of_intsD : ∀ {ds : List D} {ns : List Int}, intsD ds = some ns → ds = ns.map D.int
  | [], ns, h => by
    have e : [] = ns := Option.some.inj h
    subst e
    rfl
  | .int i :: ds, ns, h => by
    have h : (intsD ds).map (i :: ·) = some ns := h
    cases q : intsD ds with
    | none => rw [q] at h; cases h
    | some ms =>
      rw [q] at h
      have e : i :: ms = ns := Option.some.inj h
      subst e
      rw [of_intsD q]
      rfl
theorem of_blsD : ∀ {ds : List D} {ns : List Bool}, blsD ds = some ns → ds = ns.map D.bl
  | [], ns, h => by
    have e : [] = ns := Option.some.inj h
    subst e
    rfl
  | .bl i :: ds, ns, h => by
    have h : (blsD ds).map (i :: ·) = some ns := h
    cases q : blsD ds with
    | none => rw [q] at h; cases h
    | some ms =>
      rw [q] at h
      have e : i :: ms = ns := Option.some.inj h
      subst e
      rw [of_blsD q]
      rfl
def listArg (μ : Mem) : List D → Option (List D)
  | [a] => lview μ a
  | _ => none
theorem list_arg {ω : Wd} {ρ : Hp} {μ : Mem} {H : Hp} {xs ds : List D} {vs : List V} (r : Rm K T ω ρ μ H) (rx : RepL K ω xs vs) (h : listArg μ xs = some ds) : ∃ a ys, vs = [.ref a] ∧ SqL K H a ys ∧ RepL K ω ds ys := by
  unfold listArg at h
  split at h
  · obtain ⟨v, e, rd⟩ := RepL.one rx
    obtain ⟨a, ys, e1, s1, l1⟩ := r.list rd h
    subst e1
    exact ⟨a, ys, e, s1, l1⟩
  · cases h
def coSum : CO := fun μ xs k => match (listArg μ xs).bind intsD with
  | some ns => k (.int ns.sum)
  | none => False
theorem ok_sum : COk K T (rSum K) coSum := by
  intro ω ρ μ H xs vs k Q r rx h q
  unfold coSum at h
  split at h
  · rename_i ns hn
    obtain ⟨ds, h1, h2⟩ := Option.bind_eq_some_iff.mp hn
    obtain ⟨a, ys, e, s1, l1⟩ := list_arg r rx h1
    rw [of_intsD h2] at l1
    rw [RepL.ints ns l1] at s1
    exact ⟨a, ns, e, s1, q ω _ _ H (Wd.le.refl _) r repI h⟩
  · exact h.elim
def coAll : CO := fun μ xs k => match (listArg μ xs).bind blsD with
  | some ns => k (.bl (ns.all id))
  | none => False
theorem ok_all : COk K T (rAll K) coAll := by
  intro ω ρ μ H xs vs k Q r rx h q
  unfold coAll at h
  split at h
  · rename_i ns hn
    obtain ⟨ds, h1, h2⟩ := Option.bind_eq_some_iff.mp hn
    obtain ⟨a, ys, e, s1, l1⟩ := list_arg r rx h1
    rw [of_blsD h2] at l1
    rw [RepL.bls ns l1] at s1
    exact ⟨a, ns, e, s1, q ω _ _ H (Wd.le.refl _) r repB h⟩
  · exact h.elim
def coAny : CO := fun μ xs k => match (listArg μ xs).bind blsD with
  | some ns => k (.bl (ns.any id))
  | none => False
theorem ok_any : COk K T (rAny K) coAny := by
  intro ω ρ μ H xs vs k Q r rx h q
  unfold coAny at h
  split at h
  · rename_i ns hn
    obtain ⟨ds, h1, h2⟩ := Option.bind_eq_some_iff.mp hn
    obtain ⟨a, ys, e, s1, l1⟩ := list_arg r rx h1
    rw [of_blsD h2] at l1
    rw [RepL.bls ns l1] at s1
    exact ⟨a, ns, e, s1, q ω _ _ H (Wd.le.refl _) r repB h⟩
  · exact h.elim
def coMaxL : CO := fun μ xs k => match (listArg μ xs).bind intsD with
  | some ns => 0 < ns.length ∧ ∀ m, m ∈ ns → (∀ y, y ∈ ns → y ≤ m) → k (.int m)
  | none => False
theorem ok_maxL : COk K T (rMax K) coMaxL := by
  intro ω ρ μ H xs vs k Q r rx h q
  unfold coMaxL at h
  split at h
  · rename_i ns hn
    obtain ⟨ds, h1, h2⟩ := Option.bind_eq_some_iff.mp hn
    obtain ⟨a, ys, e, s1, l1⟩ := list_arg r rx h1
    rw [of_intsD h2] at l1
    rw [RepL.ints ns l1] at s1
    exact ⟨a, ns, e, s1, h.1, fun m hm hy => q ω _ _ H (Wd.le.refl _) r repI (h.2 m hm hy)⟩
  · exact h.elim
def coMinL : CO := fun μ xs k => match (listArg μ xs).bind intsD with
  | some ns => 0 < ns.length ∧ ∀ m, m ∈ ns → (∀ y, y ∈ ns → m ≤ y) → k (.int m)
  | none => False
theorem ok_minL : COk K T (rMin K) coMinL := by
  intro ω ρ μ H xs vs k Q r rx h q
  unfold coMinL at h
  split at h
  · rename_i ns hn
    obtain ⟨ds, h1, h2⟩ := Option.bind_eq_some_iff.mp hn
    obtain ⟨a, ys, e, s1, l1⟩ := list_arg r rx h1
    rw [of_intsD h2] at l1
    rw [RepL.ints ns l1] at s1
    exact ⟨a, ns, e, s1, h.1, fun m hm hy => q ω _ _ H (Wd.le.refl _) r repI (h.2 m hm hy)⟩
  · exact h.elim
/-- list(x), tuple(x) of a list or a tuple -/
def seqArg (μ : Mem) : List D → Option (List D)
  | [.tup ds] => some ds
  | [a] => lview μ a
  | _ => none
theorem seq_arg {ω : Wd} {ρ : Hp} {μ : Mem} {H : Hp} {xs ds : List D} {vs : List V} (r : Rm K T ω ρ μ H) (rx : RepL K ω xs vs) (h : seqArg μ xs = some ds) : ∃ a ys, vs = [.ref a] ∧ (SqL K H a ys ∨ (SqT K H a ys ∧ Rep K ω (.tup ds) (.ref a))) ∧ RepL K ω ds ys := by
  unfold seqArg at h
  split at h
  · have e : _ = ds := Option.some.inj h
    subst e
    obtain ⟨v, e, rd⟩ := RepL.one rx
    obtain ⟨a, ys, e1, s1, l1⟩ := id rd
    subst e1
    exact ⟨a, ys, e, .inr ⟨Same.seqT r.same s1, rd⟩, l1⟩
  · obtain ⟨v, e, rd⟩ := RepL.one rx
    obtain ⟨a, ys, e1, s1, l1⟩ := r.list rd h
    subst e1
    exact ⟨a, ys, e, .inl s1, l1⟩
  · cases h
def coList : CO := fun μ xs k => match seqArg μ xs with
  | some ds => k (.lst ds)
  | none => False
def coTuple : CO := fun μ xs k => match seqArg μ xs with
  | some ds => k (.tup ds)
  | none => False
theorem ok_list : COk K T (fun xs H Q => ∃ p ys, xs = [.ref p] ∧ (SqL K H p ys ∨ SqT K H p ys) ∧ ∀ l, H l = none → Q (.ref l) (upd H l (.lst ys))) coList := by
  intro ω ρ μ H xs vs k Q r rx h q
  unfold coList at h
  split at h
  · rename_i ds hd
    obtain ⟨a, ys, e, s1, l1⟩ := seq_arg r rx hd
    refine ⟨a, ys, e, s1.imp id And.left, fun p hp => ?_⟩
    obtain ⟨le2, r2⟩ := r.froze (o := .lst ys) hp
    exact q _ (.lst ds) _ _ le2 r2 ⟨p, ys, rfl, upd_same, RepL.mono le2 _ l1⟩ h
  · exact h.elim
theorem ok_tuple : COk K T (fun xs H Q => ∃ p ys, xs = [.ref p] ∧ ((SqL K H p ys ∧ ∀ l, H l = none → Q (.ref l) (upd H l (.tup ys))) ∨ (SqT K H p ys ∧ Q (.ref p) H))) coTuple := by
  intro ω ρ μ H xs vs k Q r rx h q
  unfold coTuple at h
  split at h
  · rename_i ds hd
    obtain ⟨a, ys, e, s1, l1⟩ := seq_arg r rx hd
    refine ⟨a, ys, e, ?_⟩
    rcases s1 with s1 | ⟨s1, rd⟩
    · refine .inl ⟨s1, fun p hp => ?_⟩
      obtain ⟨le2, r2⟩ := r.froze (o := .tup ys) hp
      exact q _ (.tup ds) _ _ le2 r2 ⟨p, ys, rfl, .inl (.inl upd_same), RepL.mono le2 _ l1⟩ h
    · exact .inr ⟨s1, q ω _ _ H (Wd.le.refl _) r rd h⟩
  · exact h.elim
/-- sorted of numbers, fewer than 64 -/
def coSorted : CO := fun μ xs k => match (listArg μ xs).bind intsD with
  | some ns => ns.length < 64 ∧ ∀ ms : List Int, ms.Perm ns → ms.Pairwise (· ≤ ·) → k (.lst (ms.map D.int))
  | none => False
theorem ok_sorted : COk K T (rSorted K) coSorted := by
  intro ω ρ μ H xs vs k Q r rx h q
  unfold coSorted at h
  split at h
  · rename_i ns hn
    obtain ⟨ds, h1, h2⟩ := Option.bind_eq_some_iff.mp hn
    obtain ⟨a, ys, e, s1, l1⟩ := list_arg r rx h1
    rw [of_intsD h2] at l1
    rw [RepL.ints ns l1] at s1
    refine ⟨a, ns, e, s1, h.1, fun ms p hp ho hn => ?_⟩
    obtain ⟨le2, r2⟩ := r.froze (o := .lst (ms.map V.int)) hn
    exact q _ (.lst (ms.map D.int)) _ _ le2 r2 ⟨p, _, rfl, upd_same, RepL.of_ints ms⟩ (h.2 ms hp ho)
  · exact h.elim
/-! ### isinstance -/
def tyName (μ : Mem) : D → Option String
  | .non => some "NoneType"
  | .bl _ => some "bool"
  | .int _ => some "int"
  | .str _ => some "str"
  | .tup _ => some "tuple"
  | .lst _ => some "list"
  | .ref n => match μ[n]? with
    | some (.lst _) => some "list"
    | _ => none
  | _ => none
def coIsi : CO := fun μ xs k => match xs with
  | [x, .ty n] => (match tyName μ x with
    | some a => (match kitB a n with
      | some b => k (.bl b)
      | none => False)
    | none => False)
  | _ => False
theorem ty_of {ω : Wd} {ρ : Hp} {μ : Mem} {H : Hp} {d : D} {v : V} {n : String} (r : Rm K T ω ρ μ H) (rd : Rep K ω d v) (h : tyName μ d = some n) : TyX K H v (.type n) := by
  cases d with
  | non => have rd : v = _ := rd; have h : "NoneType" = n := Option.some.inj h; subst rd h; exact .base .non
  | bl b => have rd : v = _ := rd; have h : "bool" = n := Option.some.inj h; subst rd h; exact .base (.bl b)
  | int b => have rd : v = _ := rd; have h : "int" = n := Option.some.inj h; subst rd h; exact .base (.int b)
  | str b => have rd : v = _ := rd; have h : "str" = n := Option.some.inj h; subst rd h; exact .base (.str b)
  | tup ds =>
    obtain ⟨a, xs, e, s, l⟩ := rd
    have h : "tuple" = n := Option.some.inj h
    subst e h
    rcases Same.seqT r.same s with (z | ⟨o, z⟩) | z
    · exact .base (.tup z)
    · exact .fTuple z
    · obtain ⟨o, its, n, e1, e2, e3, e4, e5⟩ := z
      exact .kTuple e1 e2
  | lst ds =>
    obtain ⟨a, xs, e, s, l⟩ := rd
    have h : "list" = n := Option.some.inj h
    subst e h
    exact .base (.lst (r.same _ _ s))
  | ref m =>
    obtain ⟨a, e, f⟩ := rd
    have h : (match μ[m]? with | some (.lst _) => some "list" | _ => none) = some n := h
    split at h
    · rename_i ds hm
      obtain ⟨⟨xs, h1, h2⟩, _⟩ := r.cells m a _ e hm
      have h : "list" = n := Option.some.inj h
      subst f h
      exact .base (.lst h1)
    · cases h
  | _ => cases h
theorem ok_isi : COk K T (rIsi K) coIsi := by
  intro ω ρ μ H xs vs k Q r rx h q
  unfold coIsi at h
  split at h
  · split at h
    · rename_i a ha
      split at h
      · rename_i b hb
        obtain ⟨v, w, e, e1, e2⟩ := RepL.two rx
        have e2 : w = _ := e2
        subst e2
        exact ⟨v, _, _, _, b, e, .ty _, ty_of r e1 ha, kit_ty hb, q ω _ _ H (Wd.le.refl _) r repB h⟩
      · exact h.elim
    · exact h.elim
  · exact h.elim
theorem e_bty {x : Str} {n : String} {pos : Pos} (hg : Gl X x) (hm : X.mg x = none) (hv : bootBuiltins x = some (.type n)) (hn : x ≠ "__name__" := by decide) (hd : (x == ("__debug__" : Str)) = false := by decide) : EW T X (.Name x pos) (wC (.ty n)) :=
  e_const (pe_bltn (v := .ty n) hg hm hv rfl hn hd) fun _ => rfl
end
end WL
/-! enumerate and zip over lists and tuples in any mix, as HandS's iterables. -/
namespace WL
open PySem PySem.Spec L2
/-- a list (false) or a tuple (true) -/
def Sq (b : Bool) (K : PySem.W.Frag) (H : Hp) (a : Addr) (xs : List V) : Prop := match b with
  | true => SqT K H a xs
  | false => SqL K H a xs
def StI (b : Bool) (it a : Addr) (i : Nat) (h : Heap) : Prop := match b with
  | true => h.IsTupleIter it a i
  | false => h.IsListIter it a i
def SrcH (b : Bool) (a : Addr) (its : Array Value) (h : Heap) : Prop := match b with
  | true => h.IsTuple a its
  | false => h.IsList a its
section
variable {X : Cx} {pins : List (Addr × Obj)} {σ : L2.St} {H : Hp} {s : Shared} {a : Addr} {xs ys : List V} {b : Bool}
theorem Inv.sq (I : Inv X pins σ H s) (h : Sq b X.K H a xs) : ∃ its : List Value, Vals xs its ∧ SrcH b a its.toArray s.heap ∧ xs.length ≤ sizeLine ∧ a < s.heap.objs.size := by
  cases b with
  | true =>
    obtain ⟨its, r, p, z⟩ := I.tuple h
    exact ⟨its, r, p, z, p.lt⟩
  | false =>
    obtain ⟨its, r, p, z⟩ := I.list h
    exact ⟨its, r, p.isList, z, p.lt⟩
theorem Inv.sq_inj (I : Inv X pins σ H s) (h : Sq b X.K H a xs) (h' : Sq b X.K H a ys) : xs = ys := by
  cases b with
  | true => exact I.tuple_inj h h'
  | false => exact I.list_inj h h'
end
theorem draws_sq {prog : Program} {w : World} {A : Around} (hh : A.handled = none) (b : Bool) (it l : Addr) (hne : l ≠ it) (items : Array Value) :
    Draws prog w A it [it, l] items.size (fun i v => items[i]? = some v) (fun i h => StI b it l i h ∧ SrcH b l items h) := by
  cases b with
  | true => exact Draws.tuple hh it l hne items
  | false => exact Draws.list hh it l hne items
theorem StI.at {b : Bool} {it a : Addr} {i : Nat} {h h' : Heap} (st : StI b it a i h) (e : ∀ o, h.get? it = some o → h'.get? it = some o) : StI b it a i h' := by
  cases b with
  | true =>
    obtain ⟨o, e1, c, d⟩ := (show h.IsTupleIter it a i from st)
    exact ⟨o, e o e1, c, d⟩
  | false => exact Heap.IsListIter.at (show h.IsListIter it a i from st) e
theorem StI.obj {b : Bool} {it a : Addr} {i : Nat} {h : Heap} (st : StI b it a i h) : ∃ o, h.get? it = some o ∧ ∀ v, o.data ≠ .cell v := by
  cases b with
  | true =>
    obtain ⟨o, e1, c, d⟩ := (show h.IsTupleIter it a i from st)
    exact ⟨o, e1, fun v q => by rw [d] at q; cases q⟩
  | false =>
    obtain ⟨o, e1, c, d⟩ := (show h.IsListIter it a i from st)
    exact ⟨o, e1, fun v q => by rw [d] at q; cases q⟩
def itObj (b : Bool) (a : Addr) : Obj := match b with
  | true => { cls := .type "tuple_iterator", data := .fields #[.ref a, .int 0 0] }
  | false => { cls := .type "list_iterator", data := .fields #[.ref a, .int 0 0] }
theorem begins_sq (b : Bool) (a : Addr) (items : Array Value) : Begins (.ref a) (itObj b a) (SrcH b a items) := by
  cases b with
  | true => exact begins_tuple a items
  | false => exact begins_list a items
theorem StI.start {b : Bool} {it a : Addr} {h : Heap} (e : h.get? it = some (itObj b a)) : StI b it a 0 h := by
  cases b with
  | true => exact ⟨_, e, rfl, rfl⟩
  | false => exact ⟨_, e, rfl, rfl⟩
set_option maxHeartbeats 1000000 in
theorem meets_enum1 {v : Value} {o : Obj} {H : Heap → Prop} (B : Begins v o H) :
    Meets (Builtin.«enumerate.__new__» ⟨[.type "enumerate", v], []⟩) (fun _ R s => H s.heap ∧
      R (.ok (.ret (.ref (s.heap.push o).objs.size))) { s with heap := (s.heap.push o).push { cls := .type "enumerate", data := .fields #[.none, .bool false, .ref s.heap.objs.size, rawInt 0, .none, .none] } }) :=
  .of_wp fun prog w A R s h => by
    obtain ⟨hp, g, d, tk, os⟩ := s; obtain ⟨h1, h⟩ := h
    have hsub := sub_enumerate
    have q1 : ∀ {A' : Around} {E : Value → Shared → Prop} {Q : Value → Shared → Prop}, Q (.ref hp.objs.size) ⟨hp.push o, g, d, tk, os⟩ → wpAny (model prog w) A' (pyIter v) Q E ⟨hp, g, d, tk, os⟩ :=
      fun q => B.iter prog w _ _ ⟨hp, g, d, tk, os⟩ _ h1 q
    wp_walk using q1
    refine wpAny_stack_any fun st => wpAny_pure ?_
    split
    · rename_i c _ _ _ _ _
      cases (c == Value.type "enumerate")
      · wp_walk using q1
        exact ⟨_, rfl, h⟩
      · wp_walk using q1
        exact ⟨_, rfl, h⟩
    · wp_walk using q1
      exact ⟨_, rfl, h⟩
theorem enum_begins1 {prog : Program} {w : World} {A : Around} {E : Value → Shared → Prop} {s : Shared} {v : Value} {o : Obj} {H : Heap → Prop} {Q : Value → Shared → Prop} (B : Begins v o H) (h1 : H s.heap)
    (h : ∀ h', IsEnum h' (s.heap.objs.size + 1) s.heap.objs.size 0 .none → h'.get? s.heap.objs.size = some o → h'.objs.size = s.heap.objs.size + 2 →
      (∀ b o, s.heap.get? b = some o → h'.get? b = some o) → Q (.ref (s.heap.objs.size + 1)) { s with heap := h' }) :
    wpAny (model prog w) A (call (.type "enumerate") [v]) Q E s := by
  refine callType_new F.called_enumerate (by decide) (F.typeCall_enumerate_1 _) (F.newCall_enumerate_1 _) (fun obj => F.args_object_init_2 obj _) F.entry_enumerate_new
    (meets_enum1 B) ⟨h1, ?_⟩
  have hz : (s.heap.push o).objs.size = s.heap.objs.size + 1 := Heap.size_push ..
  show _ ∧ _
  rw [hz]
  have he : IsEnum ((s.heap.push o).push { cls := .type "enumerate", data := .fields #[.none, .bool false, .ref s.heap.objs.size, rawInt 0, .none, .none] }) (s.heap.objs.size + 1) s.heap.objs.size 0 .none := by
    have := Heap.get?_push_size (s.heap.push o) (o := { cls := .type "enumerate", data := .fields #[.none, .bool false, .ref s.heap.objs.size, rawInt 0, .none, .none] }) rfl
    rw [hz] at this; exact this
  refine ⟨⟨_, he, rfl⟩, h _ he (Heap.get?_push_of_some _ (Heap.get?_push_size _ B.free)) (by rw [Heap.size_push, hz]) fun b o x => Heap.get?_push_of_some _ (Heap.get?_push_of_some _ x)⟩

/-! ### enumerate -/
def Ite2 (K : PySem.W.Frag) (b : Bool) (a : Addr) : It :=
  ⟨fun i H => ∃ (xs : List V) (x : V), Sq b K H a xs ∧ xs[i]? = some x, fun i H v H' => ∃ T x, v = .ref T ∧ H T = none ∧ H' = upd H T (.tup [.int (i : Nat), x]) ∧ ∀ xs, Sq b K H a xs → xs[i]? = some x, fun i H => ∃ xs : List V, Sq b K H a xs ∧ xs.length = i⟩
theorem turn_enum2 {P : Program} {w : World} {K : PySem.W.Frag} {elts : List Expr} {kk : Nat} {tpos : Pos} (b : Bool) (a e it : Addr) (ha : a ≠ it) (hea : e ≠ a) :
    Turn P w K (.Tuple elts kk tpos) (Ite2 K b a) [e, it] e (fun i h => (∃ old, IsEnum h e it ((i : Nat) : Int) old) ∧ StI b it a i h ∧ e ≠ it) where
  mem := by simp
  obj := fun i h st c hc => by
    obtain ⟨⟨old, he⟩, hi, _⟩ := st
    have e' : c = e ∨ c = it := by simpa using hc
    rcases e' with z | z
    · rw [z]; exact ⟨_, he, fun v q => nomatch q⟩
    · rw [z]; exact hi.obj
  keep := fun i h h' st k => let ⟨⟨old, he⟩, hi, hne⟩ := st; ⟨⟨old, k e (by simp) _ he⟩, hi.at fun o q => k it (by simp) o q, hne⟩
  item := by
    intro X hP hw hK hc i pins s σ H E I hf st hg
    subst hP hw hK
    obtain ⟨⟨old, he⟩, hit, hne⟩ := st
    obtain ⟨xs, x, hq, hx⟩ := hg
    obtain ⟨its, rv, p, hz, hal⟩ := Inv.sq I hq
    obtain ⟨u, hu, ru⟩ := rv.get hx
    have hel : e < s.heap.objs.size := Heap.lt_size he
    have hil : it < s.heap.objs.size := by obtain ⟨_, q, _⟩ := hit.obj; exact Heap.lt_size q
    have hlt : i < its.toArray.size := by
      have := (List.getElem?_eq_some_iff.mp hu).1
      simpa using this
    refine wpAny_pyNext_enum_itemD (draws_sq (A := X.A.in1) (I.ok.hd hc) b it a ha its.toArray) he ⟨hit, p⟩ hlt hne (by simp [hne, hea]) fun x' h' tk hx' ho st' hT hsz hk => ?_
    have ex : x' = u := by
      have h1 : its.toArray[i]? = some x' := hx'
      rw [List.getElem?_toArray, hu] at h1
      exact (Option.some.inj h1).symm
    subst ex
    refine ⟨_, rfl, wpAny_letOwnedTupleGo_enum (s := { s with heap := h', toks := tk + 1 }) ho fun h'' he' sb => ?_⟩
    have hT2 : h''.get? s.heap.objs.size = some { cls := .type "tuple", data := .seq #[.int i tk, x'] } := (sb.2 _ (Nat.ne_of_gt hel)).trans hT
    have new : ObjOk X.prog X.w (upd H s.heap.objs.size (.tup [.int (i : Nat), x])) h'' s.heap.objs.size (.tup [.int (i : Nat), x]) :=
      ⟨by show 2 ≤ sizeLine; decide, [.int i tk, x'], .cons ⟨_, rfl⟩ (.cons ru .nil), ⟨_, hT2, rfl, _, rfl⟩⟩
    have I1 : Inv X pins σ (upd H s.heap.objs.size (.tup [.int (i : Nat), x])) { s with heap := h'', toks := tk + 1 } :=
      I.turnedNew (ch := [e, it]) (fun b ob hb q => (sb.2 b (fun z => hb (by simp [z]))).trans (hk b ob (fun z => hb (by simp [z])) (fun z => hb (by simp [z])) q)) hf (Nat.le_refl _) new
    refine ⟨.ref s.heap.objs.size, _, I1, rfl, ⟨_, x, rfl, I.hok.fresh (Nat.le_refl _), rfl, fun ys hy => by rw [Inv.sq_inj I hy hq]; exact hx⟩, ⟨⟨x', ?_⟩, st'.1.at fun o q => (sb.2 it (Ne.symm hne)).trans q, hne⟩, fun b hb => ?_⟩
    · have e1 : ((i + 1 : Nat) : Int) = (i : Int) + 1 := by omega
      rw [e1]; exact he'
    · have hb' : b < s.heap.objs.size := by
        have e' : b = e ∨ b = it := by simpa using hb
        rcases e' with z | z
        · rw [z]; exact hel
        · rw [z]; exact hil
      rw [upd_ne (Nat.ne_of_lt hb')]
      exact (hf b hb).1
  done := by
    intro X hP hw hK hc i pins s σ H E I hf st hg
    subst hP hw hK
    obtain ⟨⟨old, he⟩, hit, hne⟩ := st
    obtain ⟨xs, hq, hx⟩ := hg
    obtain ⟨its, rv, p, hz, hal⟩ := Inv.sq I hq
    obtain ⟨f0, f1, f2, f3, f4, f5⟩ := hf it (by simp)
    have hl := rv.length
    have hi : i = its.toArray.size := by rw [List.size_toArray]; omega
    subst hi
    exact wpAny_pyNext_enum_endD (draws_sq (A := X.A.in1) (I.ok.hd hc) b it a ha its.toArray) he ⟨hit, p⟩ fun h' eb => ⟨rfl, I.turned (t' := s.toks) (fun b o hb q => eb b o hb q) f0 f1 f3 f4 f5⟩
  self := fun A i s Q E st h => let ⟨⟨_, he⟩, _⟩ := st; wpAny_pyIter_enum he h
def iEnum2 (K : PySem.W.Frag) (ta : TA) : TI := fun σ H R => ta σ H fun vs H1 => ∃ b a xs, vs = [.ref a] ∧ Sq b K H1 a xs ∧ R (Ite2 K b a) H1
theorem pi_enum2 {X : Cx} {e : Expr} {ta : TA} {p pos tpos : Pos} {elts : List Expr} {kk : Nat} (hg : Gl X "enumerate") (hm : X.mg "enumerate" = none) (ha : PA X [e] ta) (hs : starEach [e] X.env = [(false, eval e X.env)] := by rfl) :
    PI X (.Tuple elts kk tpos) (.Call (.Name "enumerate" p) [e] [] pos) (iEnum2 X.K ta) := by
  refine ⟨fun pins s σ H R I h => ?_⟩
  refine PyProof.Rows.Call_ (ld_blt I hg hm PyProof.Rows.boot_enumerate (PyProof.Rows.callWith_type1 (thn (ha.run pos pins s σ H _ I h) fun us s1 ⟨vs, H1, I1, r1, q1⟩ => ?_) hs rfl))
  obtain ⟨b, a, xs, ex, hq, q⟩ := q1
  subst ex
  cases r1 with
  | cons r rr =>
    cases rr
    cases r
    obtain ⟨its, rv, p', hz, hal⟩ := Inv.sq I1 hq
    refine enum_begins1 (begins_sq b a its.toArray) p' fun h' he hit hsz hk => wpAny_pyIter_enum he ?_
    have I2 : Inv X pins σ H1 { s1 with heap := h' } := I1.kept (t' := s1.toks) hk
    refine ⟨s1.heap.objs.size + 1, [s1.heap.objs.size + 1, s1.heap.objs.size], _, _, H1, rfl, I2, turn_enum2 b a (s1.heap.objs.size + 1) s1.heap.objs.size (Nat.ne_of_lt hal) (Nat.ne_of_gt (Nat.lt_succ_of_lt hal)), ⟨⟨.none, he⟩, StI.start hit, Nat.succ_ne_self _⟩, fun b hb => ?_, q⟩
    have e' : b = s1.heap.objs.size + 1 ∨ b = s1.heap.objs.size := by simpa using hb
    have hle : s1.heap.objs.size ≤ b := by
      rcases e' with z | z
      · rw [z]; exact Nat.le_add_right _ _
      · rw [z]; exact Nat.le_refl _
    exact I1.fpOk hle (I1.hok.fresh hle)

/-! ### zip of two -/
def Itz2 (K : PySem.W.Frag) (b1 b2 : Bool) (a b : Addr) : It :=
  ⟨fun i H => ∃ (xs ys : List V) (x y : V), Sq b1 K H a xs ∧ Sq b2 K H b ys ∧ xs[i]? = some x ∧ ys[i]? = some y,
    fun i H v H' => ∃ T x y, v = .ref T ∧ H T = none ∧ H' = upd H T (.tup [x, y]) ∧ (∀ xs, Sq b1 K H a xs → xs[i]? = some x) ∧ ∀ ys, Sq b2 K H b ys → ys[i]? = some y,
    fun i H => ∃ xs ys : List V, Sq b1 K H a xs ∧ Sq b2 K H b ys ∧ i ≤ xs.length ∧ i ≤ ys.length ∧ (i = xs.length ∨ i = ys.length)⟩
structure Apart2 (z TI TO i1 i2 a b : Addr) : Prop where
  S : ZipSep2 z TI TO i1 i2 [i1, a] [i2, b]
  ai : a ≠ i1
  bi : b ≠ i2
theorem turn_zip2 {P : Program} {w : World} {K : PySem.W.Frag} {elts : List Expr} {kk : Nat} {tpos : Pos} {b1 b2 : Bool} {a b z TI TO i1 i2 : Addr} (D : Apart2 z TI TO i1 i2 a b) :
    Turn P w K (.Tuple elts kk tpos) (Itz2 K b1 b2 a b) [z, TI, TO, i1, i2] z (fun i h => IsZip h z TI TO .none ∧ IsTupOf2 h TI (.ref i1) (.ref i2) ∧ (∃ x y, IsTupOf2 h TO x y) ∧ StI b1 i1 a i h ∧ StI b2 i2 b i h) where
  mem := by simp
  obj := fun i h st c hc => by
    obtain ⟨hz, hTI, ⟨x, y, hTO⟩, h1, h2⟩ := st
    have e' : c = z ∨ c = TI ∨ c = TO ∨ c = i1 ∨ c = i2 := by simpa using hc
    rcases e' with q | q | q | q | q
    · rw [q]; exact ⟨_, hz, fun v q => nomatch q⟩
    · rw [q]; exact ⟨_, hTI, fun v q => nomatch q⟩
    · rw [q]; exact ⟨_, hTO, fun v q => nomatch q⟩
    · rw [q]; exact h1.obj
    · rw [q]; exact h2.obj
  keep := fun i h h' st k => by
    obtain ⟨hz, hTI, ⟨x, y, hTO⟩, h1, h2⟩ := st
    exact ⟨k z (by simp) _ hz, k TI (by simp) _ hTI, ⟨x, y, k TO (by simp) _ hTO⟩, h1.at fun o q => k i1 (by simp) o q, h2.at fun o q => k i2 (by simp) o q⟩
  item := by
    intro X hP hw hK hc i pins s σ H E I hf st hg
    subst hP hw hK
    obtain ⟨hz, hTI, ⟨x0, y0, hTO⟩, h1, h2⟩ := st
    obtain ⟨xs, ys, x, y, hqx, hqy, hx, hy⟩ := hg
    obtain ⟨its, rv, p, _, hal⟩ := Inv.sq I hqx
    obtain ⟨its2, rv2, p2, _, hbl⟩ := Inv.sq I hqy
    obtain ⟨u, hu, ru⟩ := rv.get hx
    obtain ⟨u2, hu2, ru2⟩ := rv2.get hy
    have hzl : z < s.heap.objs.size := Heap.lt_size hz
    have l1 : i < its.toArray.size := by
      have := (List.getElem?_eq_some_iff.mp hu).1
      simpa using this
    have l2 : i < its2.toArray.size := by
      have := (List.getElem?_eq_some_iff.mp hu2).1
      simpa using this
    refine wpAny_pyNext_zipD2_item D.S (draws_sq (A := X.A.in1) (I.ok.hd hc) b1 i1 a D.ai its.toArray) (draws_sq (A := X.A.in1) (I.ok.hd hc) b2 i2 b D.bi its2.toArray) hz hTI hTO ⟨h1, p⟩ ⟨h2, p2⟩ l1 l2 fun x1 x2 h' tk hx1 hx2 z' TO' st1 st2 hT hsz hk => ?_
    have e1 : x1 = u := by
      have q : its.toArray[i]? = some x1 := hx1
      rw [List.getElem?_toArray, hu] at q
      exact (Option.some.inj q).symm
    have e2 : x2 = u2 := by
      have q : its2.toArray[i]? = some x2 := hx2
      rw [List.getElem?_toArray, hu2] at q
      exact (Option.some.inj q).symm
    subst e1 e2
    refine ⟨_, rfl, wpAny_letOwnedTupleGo_zip (s := { s with heap := h', toks := tk }) z' fun h'' z'' sb => ?_⟩
    have hT2 : h''.get? s.heap.objs.size = some { cls := .type "tuple", data := .seq #[x1, x2] } := (sb.2 _ (Nat.ne_of_gt hzl)).trans hT
    have new : ObjOk X.prog X.w (upd H s.heap.objs.size (.tup [x, y])) h'' s.heap.objs.size (.tup [x, y]) :=
      ⟨by show 2 ≤ sizeLine; decide, [x1, x2], .cons ru (.cons ru2 .nil), ⟨_, hT2, rfl, _, rfl⟩⟩
    have I1 : Inv X pins σ (upd H s.heap.objs.size (.tup [x, y])) { s with heap := h'', toks := tk } :=
      I.turnedNew (t' := tk) (ch := [z, TI, TO, i1, i2]) (fun c o hb q => (sb.2 c (fun q' => hb (by simp [q']))).trans (hk c o (fun q' => hb (by simp [q'])) (fun q' => hb (by simp [q'])) (fun q' => hb (by simp [q'])) (fun q' => hb (by simp [q'])) q)) hf (Nat.le_refl _) new
    refine ⟨.ref s.heap.objs.size, _, I1, rfl, ⟨_, x, y, rfl, I.hok.fresh (Nat.le_refl _), rfl, fun l hl => by rw [Inv.sq_inj I hl hqx]; exact hx, fun l hl => by rw [Inv.sq_inj I hl hqy]; exact hy⟩, ⟨z'', ?_, ⟨x1, x2, ?_⟩, ?_, ?_⟩, fun c hcm => ?_⟩
    · exact (sb.2 _ D.S.TIz).trans (hk _ _ D.S.TIz D.S.TITO D.S.TIi1 D.S.TIi2 hTI)
    · exact (sb.2 _ D.S.TOz).trans TO'
    · exact st1.1.at fun o q => (sb.2 _ (Ne.symm D.S.zi1)).trans q
    · exact st2.1.at fun o q => (sb.2 _ (Ne.symm D.S.zi2)).trans q
    · have hlt : c < s.heap.objs.size := by
        have e' : c = z ∨ c = TI ∨ c = TO ∨ c = i1 ∨ c = i2 := by simpa using hcm
        rcases e' with q | q | q | q | q
        · rw [q]; exact hzl
        · rw [q]; exact Heap.lt_size hTI
        · rw [q]; exact Heap.lt_size hTO
        · rw [q]; obtain ⟨_, e1, _⟩ := h1.obj; exact Heap.lt_size e1
        · rw [q]; obtain ⟨_, e2, _⟩ := h2.obj; exact Heap.lt_size e2
      rw [upd_ne (Nat.ne_of_lt hlt)]
      exact (hf c hcm).1
  done := by
    intro X hP hw hK hc i pins s σ H E I hf st hg
    subst hP hw hK
    obtain ⟨hz, hTI, ⟨x0, y0, hTO⟩, h1, h2⟩ := st
    obtain ⟨xs, ys, hqx, hqy, e1, e2, hend⟩ := hg
    obtain ⟨its, rv, p, _, hal⟩ := Inv.sq I hqx
    obtain ⟨its2, rv2, p2, _, hbl⟩ := Inv.sq I hqy
    have l1 := rv.length
    have l2 := rv2.length
    refine wpAny_pyNext_zipD2_end D.S (draws_sq (A := X.A.in1) (I.ok.hd hc) b1 i1 a D.ai its.toArray) (draws_sq (A := X.A.in1) (I.ok.hd hc) b2 i2 b D.bi its2.toArray) hz hTI hTO ⟨h1, p⟩ ⟨h2, p2⟩ (by rw [List.size_toArray]; omega) (by rw [List.size_toArray]; omega) (by rw [List.size_toArray, List.size_toArray]; omega) fun h' tk hk => ⟨rfl, I.turnedL (t' := tk) (ch := [z, TI, TO, i1, i2]) (fun c o hb q =>
      hk c o (fun q' => hb (by simp [q'])) (fun q' => hb (by simp [q'])) (fun q' => hb (by simp [q'])) (fun q' => hb (by simp [q'])) q) hf⟩
  self := fun A i s Q E st h => wpAny_pyIter_zip st.1 h
def iZip2 (K : PySem.W.Frag) (ta : TA) : TI := fun σ H R => ta σ H fun vs H1 => ∃ b1 b2 a b xs ys, vs = [.ref a, .ref b] ∧ Sq b1 K H1 a xs ∧ Sq b2 K H1 b ys ∧ R (Itz2 K b1 b2 a b) H1
theorem pi_zip2 {X : Cx} {e e2 : Expr} {ta : TA} {p pos tpos : Pos} {elts : List Expr} {kk : Nat} (hg : Gl X "zip") (hm : X.mg "zip" = none) (ha : PA X [e, e2] ta)
    (hs : starEach [e, e2] X.env = (false, eval e X.env) :: starEach [e2] X.env := by rfl) (hpl : (backTo pos (starEach [e2] X.env)).any (·.1) = false := by rfl) :
    PI X (.Tuple elts kk tpos) (.Call (.Name "zip" p) [e, e2] [] pos) (iZip2 X.K ta) := by
  refine ⟨fun pins s σ H R I h => ?_⟩
  refine PyProof.Rows.Call_ (ld_blt I hg hm PyProof.Rows.boot_zip (PyProof.Rows.callWith_type1 (thn (ha.run pos pins s σ H _ I h) fun us s1 ⟨vs, H1, I1, r1, q1⟩ => ?_) hs hpl))
  obtain ⟨b1, b2, a, b, xs, ys, ex, hqx, hqy, q⟩ := q1
  subst ex
  cases r1 with
  | cons r rr =>
    cases rr with
    | cons r' rr =>
      cases rr
      cases r
      cases r'
      obtain ⟨its, rv, p1, _, la⟩ := Inv.sq I1 hqx
      obtain ⟨its2, rv2, p2, _, lb⟩ := Inv.sq I1 hqy
      refine zip_begins2 (begins_sq b1 a its.toArray) (begins_sq b2 b its2.toArray) p1 p2 fun h' hz hTI hTO h1 h2 hsz hk => wpAny_pyIter_zip hz ?_
      have I2 : Inv X pins σ H1 { s1 with heap := h' } := I1.kept (t' := s1.toks) hk
      have ap : Apart2 (s1.heap.objs.size + 4) (s1.heap.objs.size + 2) (s1.heap.objs.size + 3) s1.heap.objs.size (s1.heap.objs.size + 1) a b :=
        ⟨zip_sep2 (fp1 := [a]) (fp2 := [b]) (fun c hc => by have e : c = a := by simpa using hc
                                                            rw [e]; exact la) (fun c hc => by have e : c = b := by simpa using hc
                                                                                              rw [e]; exact lb), Nat.ne_of_lt la, Nat.ne_of_lt (Nat.lt_succ_of_lt lb)⟩
      refine ⟨s1.heap.objs.size + 4, [s1.heap.objs.size + 4, s1.heap.objs.size + 2, s1.heap.objs.size + 3, s1.heap.objs.size, s1.heap.objs.size + 1], _, _, H1, rfl, I2, turn_zip2 ap, ⟨hz, hTI, ⟨_, _, hTO⟩, StI.start h1, StI.start h2⟩, fun c hcm => ?_, q⟩
      have e' : c = s1.heap.objs.size + 4 ∨ c = s1.heap.objs.size + 2 ∨ c = s1.heap.objs.size + 3 ∨ c = s1.heap.objs.size ∨ c = s1.heap.objs.size + 1 := by simpa using hcm
      have hle : s1.heap.objs.size ≤ c := by
        rcases e' with z | z | z | z | z
        · rw [z]; exact Nat.le_add_right _ _
        · rw [z]; exact Nat.le_add_right _ _
        · rw [z]; exact Nat.le_add_right _ _
        · rw [z]; exact Nat.le_refl _
        · rw [z]; exact Nat.le_add_right _ _
      exact I1.fpOk hle (I1.hok.fresh hle)
/-! ### a list, a tuple, a text -/
def iSeq (K : PySem.W.Frag) (tl : TE) : TI := fun σ H R => tl σ H fun x H1 => (∃ a, x = .ref a ∧ (∃ xs, SqL K H1 a xs) ∧ R (Itl K a) H1) ∨ (∃ a, x = .ref a ∧ (∃ xs, SqT K H1 a xs) ∧ R (Itt K a) H1) ∨ (∃ z, x = .str z ∧ R (Its z) H1)
theorem pi_seq {X : Cx} {tg l : Expr} {tl : TE} (hl : PE X l tl) : PI X tg l (iSeq X.K tl) := by
  refine ⟨fun pins s σ H R I h => ?_⟩
  refine thn (hl.run pins s σ H _ I h) fun v s1 ⟨x, H1, I1, r1, q1⟩ => ?_
  rcases q1 with ⟨a, e, ⟨xs, hq⟩, q⟩ | ⟨a, e, ⟨xs, hq⟩, q⟩ | ⟨z, e, q⟩
  · subst e
    cases r1
    obtain ⟨its, rv, p, hz⟩ := I1.list hq
    refine wpAny_pyIter_list p.isList ?_
    refine ⟨s1.heap.objs.size, [s1.heap.objs.size], _, _, H1, rfl, I1.kept (t' := s1.toks) fun b o e => Heap.get?_push_of_some _ e, turn_list a _, ⟨_, Heap.get?_push_size _ rfl, rfl, rfl⟩, fun b hb => ?_, q⟩
    have e : b = s1.heap.objs.size := by simpa using hb
    subst e
    exact I1.fpOk (Nat.le_refl _) (I1.hok.fresh (Nat.le_refl _))
  · subst e
    cases r1
    obtain ⟨its, rv, p, hz⟩ := I1.tuple hq
    refine wpAny_pyIter_tuple (show s1.heap.IsTuple a its.toArray from p) ?_
    refine ⟨s1.heap.objs.size, [s1.heap.objs.size], _, _, H1, rfl, I1.kept (t' := s1.toks) fun b o e => Heap.get?_push_of_some _ e, turn_tuple a _, ⟨_, Heap.get?_push_size _ rfl, rfl, rfl⟩, fun b hb => ?_, q⟩
    have e : b = s1.heap.objs.size := by simpa using hb
    subst e
    exact I1.fpOk (Nat.le_refl _) (I1.hok.fresh (Nat.le_refl _))
  · subst e
    obtain ⟨t, rfl⟩ := r1
    cases ha : z.cps.all (· < 128)
    · exact wpAny_pyIter_wide ha (pi_one (tk := s1.toks) I1 _ (turn_str _ z t "str_iterator" (.inr rfl)) ⟨_, Heap.get?_push_size _ rfl, rfl, rfl⟩ q)
    · exact wpAny_pyIter_ascii ha (pi_one (tk := s1.toks) I1 _ (turn_str _ z t "str_ascii_iterator" (.inl rfl)) ⟨_, Heap.get?_push_size _ rfl, rfl, rfl⟩ q)
end WL
/-! The W layer, part 5: what is walked; stores; dicts. -/
namespace WL
open PySem PySem.Spec L2
section
variable {K : PySem.W.Frag} {T : List (Addr × Str)}
/-! ### what is walked -/
def wISeq (we : WE) : WA := fun ε μ k => we ε μ fun d ε1 μ1 => match d with
  | .lst ds => k ds ε1 μ1
  | .fl ds => k ds ε1 μ1
  | .tup ds => k ds ε1 μ1
  | .str x => k (x.cps.toList.map fun c => .str ⟨#[c]⟩) ε1 μ1
  | _ => False
theorem itl_ok {ω : Wd} {a : Addr} {ds : List D} {xs : List V} (h : SqL K ω.Hf a xs) (l : RepL K ω ds xs) : ItR K T ω (Itl K a) ds where
  go := fun ω' ρ μ H i le r hi => ⟨xs, xs[i]'(by rw [l.length]; exact hi), r.same.seq (le.2.seq h), List.getElem?_eq_getElem _⟩
  stop := fun ω' ρ μ H le r => ⟨xs, r.same.seq (le.2.seq h), by rw [l.length]; exact Nat.le_refl _⟩
  yld := fun ω' ρ μ H i d x H' le r hd hy => by
    obtain ⟨e, hx⟩ := hy
    obtain ⟨v, h1, h2⟩ := l.get hd
    have e2 := hx xs (r.same.seq (le.2.seq h))
    rw [h1] at e2
    have e3 : v = x := Option.some.inj e2
    subst e3 e
    exact ⟨ω', Wd.le.refl _, r, Rep.mono le d h2⟩
theorem itt_ok {ω : Wd} {a : Addr} {ds : List D} {xs : List V} (h : SqT K ω.Hf a xs) (l : RepL K ω ds xs) : ItR K T ω (Itt K a) ds where
  go := fun ω' ρ μ H i le r hi => ⟨xs, xs[i]'(by rw [l.length]; exact hi), Same.seqT r.same (Same.seqT le.2 h), List.getElem?_eq_getElem _⟩
  stop := fun ω' ρ μ H le r => ⟨xs, Same.seqT r.same (Same.seqT le.2 h), by rw [l.length]; exact Nat.le_refl _⟩
  yld := fun ω' ρ μ H i d x H' le r hd hy => by
    obtain ⟨e, hx⟩ := hy
    obtain ⟨v, h1, h2⟩ := l.get hd
    have e2 := hx xs (Same.seqT r.same (Same.seqT le.2 h))
    rw [h1] at e2
    have e3 : v = x := Option.some.inj e2
    subst e3 e
    exact ⟨ω', Wd.le.refl _, r, Rep.mono le d h2⟩
theorem its_ok {ω : Wd} {z : Str} : ItR K T ω (Its z) (z.cps.toList.map fun c => D.str ⟨#[c]⟩) where
  go := fun ω' ρ μ H i le r hi => by
    show i < z.cps.size
    simpa using hi
  stop := fun ω' ρ μ H le r => by
    show z.cps.size ≤ _
    simp
  yld := fun ω' ρ μ H i d x H' le r hd hy => by
    obtain ⟨e, c, hc, hx⟩ := hy
    subst e hx
    rw [List.getElem?_map, Array.getElem?_toList, hc] at hd
    have e3 : D.str ⟨#[c]⟩ = d := Option.some.inj hd
    subst e3
    exact ⟨ω', Wd.le.refl _, r, rfl⟩
variable {X : Cx} {tg e e2 : Expr} {we : WE} {wt : WA} {p pos tpos : Pos}
theorem i_seq (he : EW T X e we) : IX T X tg e (wISeq we) := by
  refine ⟨fun pins s σ H R I h => (pi_seq (tg := tg) he).run pins s σ H R I ?_⟩
  obtain ⟨ω, ρ, ε, μ, k, r, h, q⟩ := h
  refine ⟨ω, ρ, ε, μ, _, r, h, fun ω1 ε1 μ1 d v H1 le1 r1 rd h1 => ?_⟩
  split at h1
  · obtain ⟨a, xs, e, s, l⟩ := rd
    exact .inl ⟨a, e, ⟨xs, .inl (.inl (r1.m.same _ _ s))⟩, q ω1 ε1 μ1 _ _ H1 le1 r1 (itl_ok (.inl (.inl s)) l) h1⟩
  · obtain ⟨a, xs, e, s, l⟩ := rd
    exact .inl ⟨a, e, ⟨xs, r1.m.same.seq s⟩, q ω1 ε1 μ1 _ _ H1 le1 r1 (itl_ok s l) h1⟩
  · obtain ⟨a, xs, e, s, l⟩ := rd
    exact .inr (.inl ⟨a, e, ⟨xs, Same.seqT r1.m.same s⟩, q ω1 ε1 μ1 _ _ H1 le1 r1 (itt_ok s l) h1⟩)
  · exact .inr (.inr ⟨_, rd, q ω1 ε1 μ1 _ _ H1 le1 r1 its_ok h1⟩)
  · exact h1.elim
def wIRng1 (wt : WA) : WA := fun ε μ k => wt ε μ fun ds ε1 μ1 => match ds with
  | [.int j] => -(2 ^ 62) ≤ j ∧ j < 2 ^ 62 ∧ k ((List.range j.toNat).map fun i => .int (i : Nat)) ε1 μ1
  | _ => False
def wIRng2 (wt : WA) : WA := fun ε μ k => wt ε μ fun ds ε1 μ1 => match ds with
  | [.int i, .int j] => (-(2 ^ 62) ≤ i ∧ i < 2 ^ 62 ∧ -(2 ^ 62) ≤ j ∧ j < 2 ^ 62) ∧ k ((List.range (j - i).toNat).map fun n => .int (i + (n : Nat))) ε1 μ1
  | _ => False
theorem itr_ok {ω : Wd} {lo : Int} {n : Nat} : ItR K T ω (Itr lo n) ((List.range n).map fun i => D.int (lo + (i : Nat))) where
  go := fun ω' ρ μ H i le r hi => by
    show i < n
    simpa using hi
  stop := fun ω' ρ μ H le r => by
    show n ≤ _
    simp
  yld := fun ω' ρ μ H i d x H' le r hd hy => by
    obtain ⟨e, hx⟩ := hy
    subst e hx
    rw [List.getElem?_map] at hd
    have hi : i < n := by
      cases q : (List.range n)[i]? with
      | none => rw [q] at hd; cases hd
      | some m =>
        have := (List.getElem?_eq_some_iff.mp q).1
        simpa using this
    rw [List.getElem?_range hi] at hd
    have e3 : D.int (lo + (i : Nat)) = d := Option.some.inj hd
    subst e3
    exact ⟨ω', Wd.le.refl _, r, rfl⟩
theorem i_rng1 (hg : Gl X "range") (hm : X.mg "range" = none) (ha : AW T X [e] wt) (hs : starEach [e] X.env = [(false, eval e X.env)] := by rfl) : IX T X tg (.Call (.Name "range" p) [e] [] pos) (wIRng1 wt) := by
  refine ⟨fun pins s σ H R I h => (pi_range1 (tg := tg) hg hm ha hs).run pins s σ H R I ?_⟩
  obtain ⟨ω, ρ, ε, μ, k, r, h, q⟩ := h
  refine ⟨ω, ρ, ε, μ, _, r, h, fun ω1 ε1 μ1 d v H1 le1 r1 rd h1 => ?_⟩
  split at h1
  · rename_i j
    obtain ⟨w, e, e1⟩ := RepL.one rd
    have e1 : w = _ := e1
    subst e e1
    have it : ItR X.K T ω1 (Itr 0 j.toNat) ((List.range j.toNat).map fun i => D.int ((0 : Int) + (i : Nat))) := itr_ok
    simp only [Int.zero_add] at it
    exact ⟨j, rfl, h1.1, h1.2.1, q ω1 ε1 μ1 _ _ H1 le1 r1 it h1.2.2⟩
  · exact h1.elim
theorem i_rng2 (hg : Gl X "range") (hm : X.mg "range" = none) (ha : AW T X [e, e2] wt) (hs : starEach [e, e2] X.env = [(false, eval e X.env), (false, eval e2 X.env)] := by rfl) (hs2 : starEach [e2] X.env = [(false, eval e2 X.env)] := by rfl) : IX T X tg (.Call (.Name "range" p) [e, e2] [] pos) (wIRng2 wt) := by
  refine ⟨fun pins s σ H R I h => (pi_range2 (tg := tg) hg hm ha hs hs2).run pins s σ H R I ?_⟩
  obtain ⟨ω, ρ, ε, μ, k, r, h, q⟩ := h
  refine ⟨ω, ρ, ε, μ, _, r, h, fun ω1 ε1 μ1 d v H1 le1 r1 rd h1 => ?_⟩
  split at h1
  · rename_i i j
    obtain ⟨w, w2, e, e1, e2⟩ := RepL.two rd
    have e1 : w = _ := e1
    have e2 : w2 = _ := e2
    subst e e1 e2
    exact ⟨i, j, rfl, h1.1, q ω1 ε1 μ1 _ _ H1 le1 r1 itr_ok h1.2⟩
  · exact h1.elim
/-- the items of a sequence, not a text -/
def seqOf : D → Option (List D)
  | .lst ds => some ds
  | .fl ds => some ds
  | .tup ds => some ds
  | _ => none
theorem sq_of {ω : Wd} {d : D} {v : V} {ds : List D} (rd : Rep K ω d v) (h : seqOf d = some ds) : ∃ b a xs, v = .ref a ∧ Sq b K ω.Hf a xs ∧ RepL K ω ds xs := by
  cases d with
  | lst es =>
    obtain ⟨a, xs, e, s, l⟩ := rd
    have e1 : es = ds := Option.some.inj h
    subst e1
    exact ⟨false, a, xs, e, .inl (.inl s), l⟩
  | fl es =>
    obtain ⟨a, xs, e, s, l⟩ := rd
    have e1 : es = ds := Option.some.inj h
    subst e1
    exact ⟨false, a, xs, e, s, l⟩
  | tup es =>
    obtain ⟨a, xs, e, s, l⟩ := rd
    have e1 : es = ds := Option.some.inj h
    subst e1
    exact ⟨true, a, xs, e, s, l⟩
  | _ => cases h
theorem Sq.same {b : Bool} {H H' : Hp} {a : Addr} {xs : List V} (s : Same H H') (h : Sq b K H a xs) : Sq b K H' a xs := by
  cases b with
  | true => exact Same.seqT s h
  | false => exact s.seq h
def wIEnum (wt : WA) : WA := fun ε μ k => wt ε μ fun ds ε1 μ1 => match ds with
  | [d] => (match seqOf d with
    | some xs => k ((List.range xs.length).map fun i => .tup [.int (i : Nat), xs.getD i .non]) ε1 μ1
    | none => False)
  | _ => False
def wIZip (wt : WA) : WA := fun ε μ k => wt ε μ fun ds ε1 μ1 => match ds with
  | [d, d'] => (match seqOf d, seqOf d' with
    | some xs, some ys => k (List.zipWith (fun x y => .tup [x, y]) xs ys) ε1 μ1
    | _, _ => False)
  | _ => False
theorem pair_new {ω : Wd} {ρ : Hp} {μ : Mem} {H : Hp} {x y : D} {vx vy : V} {p : Addr} (r : Rm K T ω ρ μ H) (hp : H p = none) (rx : Rep K ω x vx) (ry : Rep K ω y vy) :
    ∃ ω', ω.le ω' ∧ Rm K T ω' ρ μ (upd H p (.tup [vx, vy])) ∧ Rep K ω' (.tup [x, y]) (.ref p) := by
  obtain ⟨le2, r2⟩ := r.froze (o := .tup [vx, vy]) hp
  exact ⟨_, le2, r2, ⟨p, [vx, vy], rfl, .inl (.inl upd_same), RepL.cons (Rep.mono le2 _ rx) (RepL.cons (Rep.mono le2 _ ry) RepL.nil)⟩⟩
theorem ite_ok {ω : Wd} {b : Bool} {a : Addr} {ds : List D} {xs : List V} (h : Sq b K ω.Hf a xs) (l : RepL K ω ds xs) : ItR K T ω (Ite2 K b a) ((List.range ds.length).map fun i => D.tup [.int (i : Nat), ds.getD i .non]) where
  go := fun ω' ρ μ H i le r hi => ⟨xs, xs[i]'(by rw [l.length]; simpa using hi), Sq.same r.same (Sq.same le.2 h), List.getElem?_eq_getElem _⟩
  stop := fun ω' ρ μ H le r => ⟨xs, Sq.same r.same (Sq.same le.2 h), by rw [l.length]; simp⟩
  yld := fun ω' ρ μ H i d x H' le r hd hy => by
    obtain ⟨p, v, e, hp, eH, hx⟩ := hy
    have hv := hx xs (Sq.same r.same (Sq.same le.2 h))
    rw [List.getElem?_map] at hd
    have hi : i < ds.length := by
      cases q : (List.range ds.length)[i]? with
      | none => rw [q] at hd; cases hd
      | some m =>
        have := (List.getElem?_eq_some_iff.mp q).1
        simpa using this
    rw [List.getElem?_range hi] at hd
    have e3 : D.tup [.int (i : Nat), ds.getD i .non] = d := Option.some.inj hd
    obtain ⟨w, h1, h2⟩ := l.get (List.getElem?_eq_getElem hi)
    rw [hv] at h1
    have e4 : v = w := Option.some.inj h1
    subst e3 e eH e4
    obtain ⟨ω2, le2, r2, rp⟩ := pair_new (x := .int (i : Nat)) (vx := .int (i : Nat)) (y := ds[i]) r hp rfl (Rep.mono le _ h2)
    refine ⟨ω2, le2, r2, ?_⟩
    rw [List.getD_eq_getElem?_getD, List.getElem?_eq_getElem hi]
    exact rp
theorem itz_ok {ω : Wd} {b1 b2 : Bool} {a b : Addr} {ds es : List D} {xs ys : List V} (h1 : Sq b1 K ω.Hf a xs) (h2 : Sq b2 K ω.Hf b ys) (l1 : RepL K ω ds xs) (l2 : RepL K ω es ys) : ItR K T ω (Itz2 K b1 b2 a b) (List.zipWith (fun x y => D.tup [x, y]) ds es) where
  go := fun ω' ρ μ H i le r hi => by
    rw [List.length_zipWith] at hi
    exact ⟨xs, ys, xs[i]'(by rw [l1.length]; omega), ys[i]'(by rw [l2.length]; omega), Sq.same r.same (Sq.same le.2 h1), Sq.same r.same (Sq.same le.2 h2), List.getElem?_eq_getElem _, List.getElem?_eq_getElem _⟩
  stop := fun ω' ρ μ H le r => ⟨xs, ys, Sq.same r.same (Sq.same le.2 h1), Sq.same r.same (Sq.same le.2 h2), by rw [l1.length, List.length_zipWith]; omega, by rw [l2.length, List.length_zipWith]; omega, by rw [l1.length, l2.length, List.length_zipWith]; omega⟩
  yld := fun ω' ρ μ H i d x H' le r hd hy => by
    obtain ⟨p, v, w, e, hp, eH, hx, hy⟩ := hy
    have hv := hx xs (Sq.same r.same (Sq.same le.2 h1))
    have hw := hy ys (Sq.same r.same (Sq.same le.2 h2))
    obtain ⟨d1, g1, r1⟩ := l1.getV hv
    obtain ⟨d2, g2, r2⟩ := l2.getV hw
    rw [List.getElem?_zipWith, g1, g2] at hd
    have e3 : D.tup [d1, d2] = d := Option.some.inj hd
    subst e3 e eH
    exact pair_new r hp (Rep.mono le _ r1) (Rep.mono le _ r2)
theorem i_enum {elts : List Expr} {kk : Nat} (hg : Gl X "enumerate") (hm : X.mg "enumerate" = none) (ha : AW T X [e] wt) (hs : starEach [e] X.env = [(false, eval e X.env)] := by rfl) : IX T X (.Tuple elts kk tpos) (.Call (.Name "enumerate" p) [e] [] pos) (wIEnum wt) := by
  refine ⟨fun pins s σ H R I h => (pi_enum2 hg hm ha hs).run pins s σ H R I ?_⟩
  obtain ⟨ω, ρ, ε, μ, k, r, h, q⟩ := h
  refine ⟨ω, ρ, ε, μ, _, r, h, fun ω1 ε1 μ1 d v H1 le1 r1 rd h1 => ?_⟩
  split at h1
  · split at h1
    · rename_i xs hxs
      obtain ⟨w, e, e1⟩ := RepL.one rd
      obtain ⟨b, a, ys, e2, s, l⟩ := sq_of e1 hxs
      subst e e2
      exact ⟨b, a, ys, rfl, Sq.same r1.m.same s, q ω1 ε1 μ1 _ _ H1 le1 r1 (ite_ok s l) h1⟩
    · exact h1.elim
  · exact h1.elim
theorem i_zip {elts : List Expr} {kk : Nat} (hg : Gl X "zip") (hm : X.mg "zip" = none) (ha : AW T X [e, e2] wt)
    (hs : starEach [e, e2] X.env = (false, eval e X.env) :: starEach [e2] X.env := by rfl) (hpl : (backTo pos (starEach [e2] X.env)).any (·.1) = false := by rfl) : IX T X (.Tuple elts kk tpos) (.Call (.Name "zip" p) [e, e2] [] pos) (wIZip wt) := by
  refine ⟨fun pins s σ H R I h => (pi_zip2 hg hm ha hs hpl).run pins s σ H R I ?_⟩
  obtain ⟨ω, ρ, ε, μ, k, r, h, q⟩ := h
  refine ⟨ω, ρ, ε, μ, _, r, h, fun ω1 ε1 μ1 d v H1 le1 r1 rd h1 => ?_⟩
  split at h1
  · split at h1
    · rename_i xs ys hxs hys
      obtain ⟨w, w2, e, e1, e2⟩ := RepL.two rd
      obtain ⟨b1, a, zs, f1, s1, l1⟩ := sq_of e1 hxs
      obtain ⟨b2, b, zs2, f2, s2, l2⟩ := sq_of e2 hys
      subst e f1 f2
      exact ⟨b1, b2, a, b, zs, zs2, rfl, Sq.same r1.m.same s1, Sq.same r1.m.same s2, q ω1 ε1 μ1 _ _ H1 le1 r1 (itz_ok s1 s2 l1 l2) h1⟩
    · exact h1.elim
  · exact h1.elim
/-! ### x.append(e), x[i] = e, x[i] += e, x += e of a list that is a cell -/
theorem Rm.lcell {ω : Wd} {ρ : Hp} {μ : Mem} {H : Hp} {n : Nat} {v : V} {ds : List D} (r : Rm K T ω ρ μ H) (rd : Rep K ω (.ref n) v) (hm : μ[n]? = some (.lst ds)) :
    ∃ a xs, v = .ref a ∧ H a = some (.lst xs) ∧ RepL K ω ds xs ∧ ∀ es ys, RepL K ω es ys → Rm K T ω ρ (μ.set n (.lst es)) (upd H a (.lst ys)) := by
  obtain ⟨a, e, f⟩ := rd
  obtain ⟨⟨xs, h1, h2⟩, _⟩ := r.cells n a _ e hm
  exact ⟨a, xs, f, h1, h2, fun es ys l => r.write e hm (by intro z; cases z) (by intro z; cases z) h1 (fun ps z => by cases z) (fun φ z => by cases z) ⟨ys, upd_same, l⟩⟩
/-- a method of a built-in type: the receiver's type is known when it has come -/
def tyM (T : String) (μ : Mem) : D → Bool
  | .str _ => T == "str"
  | .int _ => T == "int"
  | .lst _ => T == "list"
  | .ref n => match μ[n]? with
    | some (.lst _) => T == "list"
    | some (.dK _) => T == "dict"
    | _ => false
  | _ => false
abbrev MO := Mem → D → List D → (D → Mem → Prop) → Prop
def wM (Ty : String) (ro : MO) (wo : WE) (wt : WA) : WE := fun ε μ k => wo ε μ fun o ε1 μ1 => tyM Ty μ1 o = true ∧ wt ε1 μ1 fun xs ε2 μ2 => ro μ2 o xs fun z μ3 => k z ε2 μ3
def MMOk (K : PySem.W.Frag) (T : List (Addr × Str)) (r : V → List V → Hp → VK → Prop) (ro : MO) : Prop := ∀ (ω : Wd) (ρ : Hp) (μ : Mem) (H : Hp) (x : D) (xs : List D) (vx : V) (vs : List V) (k : D → Mem → Prop) (Q : VK), Rm K T ω ρ μ H → Rep K ω x vx → RepL K ω xs vs → ro μ x xs k →
  (∀ ω' z vz μ' H', ω.le ω' → Rm K T ω' ρ μ' H' → Rep K ω' z vz → k z μ' → Q vz H') → r vx vs H Q
theorem tyM_ok {Ty : String} {ω : Wd} {ρ : Hp} {μ : Mem} {H : Hp} {d : D} {v : V} (r : Rm K T ω ρ μ H) (rd : Rep K ω d v) (h : tyM Ty μ d = true) : tyV K Ty v H := by
  cases d with
  | str z => have rd : v = _ := rd; subst rd; exact beq_iff_eq.mp h
  | int z => have rd : v = _ := rd; subst rd; exact beq_iff_eq.mp h
  | lst ds =>
    obtain ⟨a, xs, e, s, l⟩ := rd
    subst e
    exact .inl ⟨beq_iff_eq.mp h, xs, .inl (.inl (r.same _ _ s))⟩
  | ref n =>
    obtain ⟨a, e, f⟩ := rd
    subst f
    have h : (match μ[n]? with | some (.lst _) => Ty == "list" | some (.dK _) => Ty == "dict" | _ => false) = true := h
    split at h
    · rename_i ds hm
      obtain ⟨⟨xs, h1, h2⟩, _⟩ := r.cells n a _ e hm
      exact .inl ⟨beq_iff_eq.mp h, xs, .inl (.inl h1)⟩
    · rename_i ds hm
      obtain ⟨⟨xs, h1, h2⟩, _⟩ := r.cells n a _ e hm
      exact .inr (.inr (.inl ⟨beq_iff_eq.mp h, .inl ⟨xs, h1⟩⟩))
    · cases h
  | _ => cases h
theorem e_bm {Ty id : String} {name : Str} {o : Expr} {es : List Expr} {wo : WE} {apos cpos : Pos} {r : V → List V → Hp → VK → Prop} {ro : MO} (pa : PlainAttrs Ty) (slot : Slot Ty name id) (hty : typeOf (.builtin id) = pure (.type "method_descriptor")) (hm : MtR X id r) (hc : MMOk X.K T r ro) (ho : EW T X o wo) (ha : AW T X (e :: es) wt)
    (hbase : attributeBase o name X.env (eval o X.env) = eval o X.env := by rfl)
    (hfew : ((backTo cpos (starEach (e :: es) X.env)).all (fun x => !x.1) && (backToKw cpos (keywordEach [] X.env)).all (fun x => x.1.isSome)
      && decide ((e :: es).length + ([] : List Keyword).length + (if ([] : List Keyword).isEmpty then 0 else 1) < 30)) = true := by rfl)
    (hline : (apos.endLine == cpos.line) = true := by rfl) (hs : starEach (e :: es) X.env = (false, eval e X.env) :: starEach es X.env := by rfl) (hplain : (backTo cpos (starEach es X.env)).any (·.1) = false := by rfl) :
    EW T X (.Call (.Attribute o name apos) (e :: es) [] cpos) (wM Ty ro wo wt) := by
  refine PE.to (pe_bm pa slot hty hm ho ha hbase hfew hline hs hplain) fun σ H Q h => ?_
  obtain ⟨ω, ρ, ε, μ, k, rr, h, q⟩ := h
  refine ⟨ω, ρ, ε, μ, _, rr, h, fun ω1 ε1 μ1 x vx H1 le1 r1 rx h1 => ?_⟩
  refine ⟨tyM_ok r1.m rx h1.1, ω1, ρ, ε1, μ1, _, r1, h1.2, fun ω2 ε2 μ2 xs vs H2 le2 r2 rs h2 => ?_⟩
  refine hc ω2 ρ μ2 H2 x xs vx vs _ Q r2.m (Rep.mono le2 x rx) rs h2 fun ω3 z vz μ3 H3 le3 r3 rz h3 => ?_
  exact q ω3 ε2 μ3 z vz H3 (le1.trans (le2.trans le3)) ⟨r3, r2.e.mono le3⟩ rz h3
theorem e_bm0 {Ty id : String} {name : Str} {o : Expr} {wo : WE} {apos cpos : Pos} {r : V → List V → Hp → VK → Prop} {ro : MO} (pa : PlainAttrs Ty) (slot : Slot Ty name id) (hty : typeOf (.builtin id) = pure (.type "method_descriptor")) (hm : MtR X id r) (hc : MMOk X.K T r ro) (ho : EW T X o wo)
    (hbase : attributeBase o name X.env (eval o X.env) = eval o X.env := by rfl) (hline : (apos.endLine == cpos.line) = true := by rfl) : EW T X (.Call (.Attribute o name apos) [] [] cpos) (wM Ty ro wo wNil) := by
  refine PE.to (pe_bm0 pa slot hty hm ho hbase hline) fun σ H Q h => ?_
  obtain ⟨ω, ρ, ε, μ, k, rr, h, q⟩ := h
  refine ⟨ω, ρ, ε, μ, _, rr, h, fun ω1 ε1 μ1 x vx H1 le1 r1 rx h1 => ?_⟩
  refine ⟨tyM_ok r1.m rx h1.1, ?_⟩
  refine hc ω1 ρ μ1 H1 x [] vx [] _ Q r1.m rx RepL.nil h1.2 fun ω3 z vz μ3 H3 le3 r3 rz h3 => ?_
  exact q ω3 ε1 μ3 z vz H3 (le1.trans le3) ⟨r3, r1.e.mono le3⟩ rz h3
theorem repN {ω : Wd} : Rep K ω .non .non := rfl
def moAppend : MO := fun μ o xs k => match o, xs with
  | .ref n, [y] => (match μ[n]? with
    | some (.lst ds) => ds.length < sizeLine ∧ k .non (μ.set n (.lst (ds ++ [y])))
    | _ => False)
  | _, _ => False
theorem ok_append : MMOk K T rAppend moAppend := by
  intro ω ρ μ H x xs vx vs k Q r rx rs h q
  unfold moAppend at h
  split at h
  · split at h
    · rename_i ds hm
      obtain ⟨a, zs, e, hH, l, wr⟩ := r.lcell rx hm
      obtain ⟨w, e2, rw'⟩ := RepL.one rs
      exact ⟨a, zs, w, e, e2, hH, by rw [l.length]; exact h.1, q ω _ _ _ _ (Wd.le.refl _) (wr _ _ (RepL.append l (RepL.cons rw' RepL.nil))) repN h.2⟩
    · exact h.elim
  · exact h.elim
def moExtend : MO := fun μ o xs k => match o, xs with
  | .ref n, [y] => (match μ[n]?, lviewM μ y with
    | some (.lst ds), some es => ds.length + es.length ≤ sizeLine ∧ k .non (μ.set n (.lst (ds ++ es)))
    | _, _ => False)
  | _, _ => False
theorem ok_extend : MMOk K T rExtend moExtend := by
  intro ω ρ μ H x xs vx vs k Q r rx rs h q
  unfold moExtend at h
  split at h
  · split at h
    · rename_i ds es hm hy
      obtain ⟨a, zs, e, hH, l, wr⟩ := r.lcell rx hm
      obtain ⟨w, e2, rw'⟩ := RepL.one rs
      obtain ⟨b, ys, e3, hH2, l2⟩ := r.listM rw' hy
      subst e3
      exact ⟨a, b, zs, ys, e, e2, hH, hH2, by rw [l.length, l2.length]; exact h.1, q ω _ _ _ _ (Wd.le.refl _) (wr _ _ (RepL.append l l2)) repN h.2⟩
    · exact h.elim
  · exact h.elim
def moPop : MO := fun μ o xs k => match o, xs with
  | .ref n, [] => (match μ[n]? with
    | some (.lst ds) => (match ds[ds.length - 1]? with
      | some d => k d (μ.set n (.lst ds.dropLast))
      | none => False)
    | _ => False)
  | _, _ => False
theorem RepL.dropLast {ω : Wd} {ds : List D} {xs : List V} (l : RepL K ω ds xs) : RepL K ω ds.dropLast xs.dropLast := by
  rw [List.dropLast_eq_take, List.dropLast_eq_take, l.length]
  exact RepL.take _ l
theorem ok_pop : MMOk K T rPop moPop := by
  intro ω ρ μ H x xs vx vs k Q r rx rs h q
  unfold moPop at h
  split at h
  · split at h
    · rename_i ds hm
      split at h
      · rename_i d hd
        obtain ⟨a, zs, e, hH, l, wr⟩ := r.lcell rx hm
        obtain ⟨v, h1, h2⟩ := l.get hd
        have e2 : vs = [] := rs
        exact ⟨a, zs, v, e, e2, hH, by rw [l.length]; exact h1, q ω _ _ _ _ (Wd.le.refl _) (wr _ _ l.dropLast) h2 h⟩
      · exact h.elim
    · exact h.elim
  · exact h.elim
/-! ### stores -/
abbrev PO3 := Mem → D → D → D → (Mem → Prop) → Prop
def POk (K : PySem.W.Frag) (T : List (Addr × Str)) (r : TSet) (ro : PO3) : Prop := ∀ (ω : Wd) (ρ : Hp) (μ : Mem) (H : Hp) (o i d : D) (vo vi vd : V) (k : Mem → Prop) (Q : Hp → Prop), Rm K T ω ρ μ H → Rep K ω o vo → Rep K ω i vi → Rep K ω d vd → ro μ o i d k →
  (∀ ω' μ' H', ω.le ω' → Rm K T ω' ρ μ' H' → k μ' → Q H') → r vo vi vd H Q
def wgSub (wo wi : WE) (so : PO3) : WG := fun d ε μ k => wo ε μ fun o ε1 μ1 => wi ε1 μ1 fun i ε2 μ2 => so μ2 o i d fun μ3 => k ε2 μ3
theorem g_sub {o i : Expr} {wo wi : WE} {t : TSet} {so : PO3} (ho : EW T X o wo) (hi : EW T X i wi) (hs : PSet X t) (hc : POk X.K T t so)
    (ha : ∀ v, assign (.Subscript o i pos) X.env v = (do
      let ov ← holding [v] (eval o X.env)
      let iv ← holding [v, ov] (eval i X.env)
      standAt pos
      holding [v, ov, iv] (setItem ov iv v)
      release [v, ov, iv] []) := by intro _; rfl) : GX T X (.Subscript o i pos) [] (wgSub wo wi so) := by
  refine PG.to2 (pg_sub ho hi hs ha) fun v σ H Q h => ?_
  obtain ⟨ω, ρ, ε, μ, k, d, r, rd, h, q⟩ := h
  refine ⟨ω, ρ, ε, μ, _, r, h, fun ω1 ε1 μ1 x vx H1 le1 r1 rx h1 => ?_⟩
  refine ⟨ω1, ρ, ε1, μ1, _, r1, h1, fun ω2 ε2 μ2 y vy H2 le2 r2 ry h2 => ?_⟩
  refine hc ω2 ρ μ2 H2 x y d vx vy v _ _ r2.m (Rep.mono le2 x rx) ry (Rep.mono (le1.trans le2) d rd) h2 fun ω3 μ3 H3 le3 r3 h3 => ?_
  exact q ω3 ε2 μ3 σ H3 (le1.trans (le2.trans le3)) ⟨r3, r2.e.mono le3⟩ rfl (fun _ _ => rfl) h3
def soSetL : PO3 := fun μ o i d k => match o, i with
  | .ref n, .int j => (match μ[n]? with
    | some (.lst ds) => (match ixN ds.length j with
      | some m => k (μ.set n (.lst (ds.set m d)))
      | none => False)
    | _ => False)
  | _, _ => False
theorem ok_setL : POk K T rSetL soSetL := by
  intro ω ρ μ H o i d vo vi vd k Q r ro ri rd h q
  unfold soSetL at h
  split at h
  · rename_i j
    split at h
    · rename_i ds hm
      split at h
      · rename_i m hj
        obtain ⟨a, zs, e, hH, l, wr⟩ := r.lcell ro hm
        exact ⟨a, zs, j, m, e, ri, hH, by rw [l.length]; exact hj, q ω _ _ (Wd.le.refl _) (wr _ _ (RepL.set rd m l)) h⟩
      · exact h.elim
    · exact h.elim
  · exact h.elim
theorem get_list : PGet X (rIxL X.K) := by
  intro pins s σ H x y v u Q I rx ry h
  obtain ⟨p, xs, i, z, rfl, rfl, hq, he, q⟩ := h
  cases rx
  obtain ⟨t, rfl⟩ := ry
  obtain ⟨its, r, pl, hz⟩ := I.list hq
  obtain ⟨j, h1, h2, h3, h4, h5⟩ := atI_get he
  obtain ⟨w, ew, rw'⟩ := r.get h2
  have hl := r.length
  have hn := line63
  have fin : EP X pins σ Q w s := ⟨z, H, I, rw', q⟩
  by_cases h0 : 0 ≤ i
  · have hj : i.toNat = j := by
      rw [PySem.seqIndex_of h0 h5] at h1
      exact Option.some.inj h1
    exact wpAny_getItem_list pl.isList h0 (by omega) (by rw [hj]; simpa using ew) fin
  · have hj : (i + (its.toArray.size : Int)).toNat = j := by
      rw [PySem.seqIndex_neg (by omega) h4] at h1
      rw [List.size_toArray, ← hl]
      exact Option.some.inj h1
    exact wpAny_getItem_list_neg (x := w) pl.isList (by omega) (by rw [List.size_toArray] <;> omega) (by omega) (by rw [hj]; simpa using ew) fin
def roIxL : RO := fun μ x y k => match y with
  | .int i => (match lview μ x with
    | some ds => (match atI ds i with
      | some d => k d
      | none => False)
    | none => False)
  | _ => False
theorem ok_ixL : ROk K T (rIxL K) roIxL := by
  intro ω ρ μ H x y vx vy k Q r rx ry h q
  unfold roIxL at h
  split at h
  · rename_i i
    split at h
    · rename_i ds hl
      split at h
      · rename_i d hd
        obtain ⟨a, xs, e1, s1, l1⟩ := r.list rx hl
        obtain ⟨v, h1, h2⟩ := atI_rep l1 hd
        exact ⟨a, xs, i, v, e1, ry, s1, h1, q ω d v H (Wd.le.refl _) r h2 h⟩
      · exact h.elim
    · exact h.elim
  · exact h.elim
/-- x[i] op= e of a list that is a cell -/
def wAugS (wo wi we : WE) (ro : RO) : WS := fun k ε μ => wo ε μ fun o ε1 μ1 => wi ε1 μ1 fun i ε2 μ2 => roIxL μ2 o i fun x => we ε2 μ2 fun y ε3 μ3 => ro μ3 x y fun z => soSetL μ3 o i z fun μ4 => k.nx ε3 μ4
theorem s_augS {o i : Expr} {wo wi : WE} {op : Operator} {tip : TIp} {ro : RO} (ho : EW T X o wo) (hi : EW T X i wi) (he : EW T X e we) (hp : PIp X op tip) (hr : ROk X.K T tip ro)
    (ha : ∀ ov iv new, augStore i ov iv new = (do holding [new, ov, iv] (setItem ov iv new); release [new, ov, iv] []; pure .next) := by intros; rfl) : SW T X (.AugAssign (.Subscript o i tpos) op e pos) (wAugS wo wi we ro) := by
  refine PS.to (ps_augS ho hi (tget := rIxL X.K) get_list he hp set_list ha) fun D σ H h => ?_
  obtain ⟨ω, ρ, ε, μ, k, r, h, q1, q2, q3, q4⟩ := h
  refine ⟨ω, ρ, ε, μ, _, r, h, fun ω1 ε1 μ1 x vx H1 le1 r1 rx h1 => ?_⟩
  refine ⟨ω1, ρ, ε1, μ1, _, r1, h1, fun ω2 ε2 μ2 y vy H2 le2 r2 ry h2 => ?_⟩
  refine ok_ixL ω2 ρ μ2 H2 x y vx vy _ _ r2.m (Rep.mono le2 x rx) ry h2 fun ω3 z vz H3 le3 r3 rz h3 => ?_
  refine ⟨ω3, ρ, ε2, μ2, _, ⟨r3, r2.e.mono le3⟩, h3, fun ω4 ε4 μ4 w vw H4 le4 r4 rw' h4 => ?_⟩
  refine hr ω4 ρ μ4 H4 z w vz vw _ _ r4.m (Rep.mono le4 z rz) rw' h4 fun ω5 u vu H5 le5 r5 ru h5 => ?_
  refine ok_setL ω5 ρ μ4 H5 x y u vx vy vu _ _ r5 (Rep.mono (le2.trans (le3.trans (le4.trans le5))) x rx) (Rep.mono (le3.trans (le4.trans le5)) y ry) ru h5 fun ω6 μ6 H6 le6 r6 h6 => ?_
  exact q1 ω6 ε4 μ6 σ H6 (le1.trans (le2.trans (le3.trans (le4.trans (le5.trans le6))))) ⟨r6, (r4.e.mono le5).mono le6⟩ h6
theorem ok_ipadd : ROk K T (ipI fun i j => i + j) (roI0 fun i j => .int (i + j)) := by
  intro ω ρ μ H x y vx vy k Q r rx ry h q
  unfold roI0 at h
  split at h
  · exact ⟨_, _, rx, ry, q ω _ _ H (Wd.le.refl _) r repI h⟩
  · exact h.elim
theorem ok_ipsub : ROk K T (ipI fun i j => i - j) (roI0 fun i j => .int (i - j)) := by
  intro ω ρ μ H x y vx vy k Q r rx ry h q
  unfold roI0 at h
  split at h
  · exact ⟨_, _, rx, ry, q ω _ _ H (Wd.le.refl _) r repI h⟩
  · exact h.elim
/-- x += e of a list that is a cell -/
def wAugL (i : Nat) (we : WE) : WS := fun k ε μ => match ε[i]? with
  | some (some (.ref n)) => we ε μ fun y ε1 μ1 => (match μ1[n]?, lviewM μ1 y with
    | some (.lst ds), some es => ds.length + es.length ≤ sizeLine ∧ k.nx (ε1.set i (some (.ref n))) (μ1.set n (.lst (ds ++ es)))
    | _, _ => False)
  | _ => False
theorem s_augL (i : Nat) {x : Str} {pos' : Pos} (hN : X.N.Nodup) (he : EW T X e we) (hi : X.N[i]? = some x := by rfl) (hx : Loc X.env.scope x := by first | exact Or.inl rfl | exact Or.inr rfl)
    (hf : X.fn x = true ∨ X.env.scope.names.lookup x = some .local := by first | exact .inl rfl | exact .inr rfl | assumption) : SW T X (.AugAssign (.Name x pos') .Add e pos) (wAugL i we) := by
  refine PS.to (ps_aug hN hi hx he (ti := rExt2) iop_ext hf) fun D σ H h => ?_
  obtain ⟨ω, ρ, ε, μ, k, r, h, q1, q2, q3, q4⟩ := h
  unfold wAugL at h
  split at h
  · rename_i n hd
    obtain ⟨v, e1, e2⟩ := r.e.2 i _ hd
    refine ⟨v, e1, ω, ρ, ε, μ, _, r, h, fun ω1 ε1 μ1 y vy H1 le1 r1 ry h1 => ?_⟩
    split at h1
    · rename_i ds es hm hy
      have e3 := Rep.mono le1 _ e2
      obtain ⟨a, zs, e4, hH, l, wr⟩ := r1.m.lcell e3 hm
      obtain ⟨b, ys, e5, hH2, l2⟩ := r1.m.listM ry hy
      subst e4 e5
      have r2 := wr _ _ (RepL.append l l2)
      exact ⟨a, b, zs, ys, rfl, rfl, hH, hH2, by rw [l.length, l2.length]; exact h1.1, q1 ω1 _ _ _ _ le1 ⟨r2, r1.e.set e3 i⟩ h1.2⟩
    · exact h1.elim
  · exact h.elim
/-! ### dicts with numbers and texts as keys -/
def keyD : D → Option Key
  | .int i => some (.inl i)
  | .str x => some (.inr x)
  | _ => none
theorem keyD_rep {ω : Wd} {d : D} {v : V} {k : Key} (r : Rep K ω d v) (h : keyD d = some k) : v = kV k := by
  cases d with
  | int i => have h : Sum.inl i = k := Option.some.inj h; subst h; exact r
  | str i => have h : Sum.inr i = k := Option.some.inj h; subst h; exact r
  | _ => cases h
def dget (kvs : List (Key × D)) (k : Key) : Option D := (kvs.find? fun kv => decide (kv.1 = k)).map (·.2)
def dput (kvs : List (Key × D)) (k : Key) (d : D) : List (Key × D) := if kvs.any (fun kv => decide (kv.1 = k)) then kvs.map (fun kv => if kv.1 = k then (kv.1, d) else kv) else kvs ++ [(k, d)]
def dview (μ : Mem) : D → Option (List (Key × D))
  | .ref n => match μ[n]? with
    | some (.dK kvs) => some kvs
    | _ => none
  | _ => none
theorem RepP.get {ω : Wd} {k : Key} : ∀ {l : List (Key × D)} {m : List (Key × V)}, RepP K ω l m → (dget l k = none ∧ valV m k = none) ∨ ∃ d v, dget l k = some d ∧ valV m k = some v ∧ Rep K ω d v
  | _, _, .nil => .inl ⟨rfl, rfl⟩
  | (k1, d) :: l, (k2, v) :: m, .cons r t => by
    have r1 : k1 = k2 := r.1
    subst r1
    by_cases h : k1 = k
    · exact .inr ⟨d, v, by simp [dget, h], by simp [valV, h], r.2⟩
    · have e1 : dget ((k1, d) :: l) k = dget l k := by simp [dget, h]
      have e2 : valV ((k1, v) :: m) k = valV m k := by simp [valV, h]
      rw [e1, e2]
      exact RepP.get t
theorem RepP.keys {ω : Wd} : ∀ {l : List (Key × D)} {m : List (Key × V)}, RepP K ω l m → m.map (·.1) = l.map (·.1)
  | _, _, .nil => rfl
  | p :: l, q :: m, .cons r t => by
    rw [List.map_cons, List.map_cons, RepP.keys t, r.1]
theorem RepP.any {ω : Wd} {k : Key} : ∀ {l : List (Key × D)} {m : List (Key × V)}, RepP K ω l m → m.any (fun kv => decide (kv.1 = k)) = l.any (fun kv => decide (kv.1 = k))
  | _, _, .nil => rfl
  | p :: l, q :: m, .cons r t => by
    rw [List.any_cons, List.any_cons, RepP.any t, r.1]
theorem RepP.upd {ω : Wd} {k : Key} {d : D} {v : V} (rd : Rep K ω d v) : ∀ {l : List (Key × D)} {m : List (Key × V)}, RepP K ω l m → RepP K ω (l.map fun kv => if kv.1 = k then (kv.1, d) else kv) (m.map fun kv => if kv.1 = k then (kv.1, v) else kv)
  | _, _, .nil => .nil
  | p :: l, q :: m, .cons r t => by
    rw [List.map_cons, List.map_cons]
    refine .cons ?_ (RepP.upd rd t)
    rw [← r.1]
    by_cases h : p.1 = k
    · rw [if_pos h, if_pos h]
      exact ⟨rfl, rd⟩
    · rw [if_neg h, if_neg h]
      exact r
theorem RepP.app {ω : Wd} {k : Key} {d : D} {v : V} (rd : Rep K ω d v) : ∀ {l : List (Key × D)} {m : List (Key × V)}, RepP K ω l m → RepP K ω (l ++ [(k, d)]) (m ++ [(k, v)])
  | _, _, .nil => .cons ⟨rfl, rd⟩ .nil
  | p :: l, q :: m, .cons r t => .cons r (RepP.app rd t)
theorem RepP.put {ω : Wd} {k : Key} {d : D} {v : V} (rd : Rep K ω d v) {l : List (Key × D)} {m : List (Key × V)} (r : RepP K ω l m) : RepP K ω (dput l k d) (putK m k v) := by
  unfold dput putK
  rw [r.any]
  cases l.any (fun kv => decide (kv.1 = k)) with
  | true => exact RepP.upd rd r
  | false => exact RepP.app rd r
theorem RepP.length {ω : Wd} {l : List (Key × D)} {m : List (Key × V)} (r : RepP K ω l m) : m.length = l.length := by
  have := congrArg List.length r.keys
  simpa using this
theorem Rm.dcell {ω : Wd} {ρ : Hp} {μ : Mem} {H : Hp} {d : D} {v : V} {kvs : List (Key × D)} (r : Rm K T ω ρ μ H) (rd : Rep K ω d v) (h : dview μ d = some kvs) :
    ∃ n a ks, d = .ref n ∧ v = .ref a ∧ H a = some (.dK ks) ∧ RepP K ω kvs ks ∧ ∀ l m, RepP K ω l m → Rm K T ω ρ (μ.set n (.dK l)) (upd H a (.dK m)) := by
  cases d with
  | ref n =>
    obtain ⟨a, e, f⟩ := rd
    have h : (match μ[n]? with | some (.dK kvs) => some kvs | _ => none) = some kvs := h
    split at h
    · rename_i ks hm
      have e1 : ks = kvs := Option.some.inj h
      subst e1
      obtain ⟨⟨xs, h1, h2⟩, _⟩ := r.cells n a _ e hm
      exact ⟨n, a, xs, rfl, f, h1, h2, fun l m q => r.write e hm (by intro z; cases z) (by intro z; cases z) h1 (fun ps z => by cases z) (fun φ z => by cases z) ⟨m, upd_same, q⟩⟩
    · cases h
  | _ => cases h
def wDNew : WE := fun ε μ k => k (.ref μ.length) ε (μ ++ [.dK []])
theorem e_dnew : EW T X (.Dict [] [] pos) wDNew := by
  refine PE.to pe_dnewK fun σ H Q h => ?_
  obtain ⟨ω, ρ, ε, μ, k, r, h, q⟩ := h
  intro p hp
  obtain ⟨le2, r2, e2⟩ := r.m.alloc (o := .dK []) (c := .dK []) hp (by intro z; cases z) fun ω' le => ⟨[], upd_same, .nil⟩
  exact q _ ε _ (.ref (List.length μ)) _ _ le2 ⟨r2, r.e.mono le2⟩ ⟨p, e2, rfl⟩ h
def wDGet (wd wk : WE) : WE := fun ε μ k => wd ε μ fun o ε1 μ1 => wk ε1 μ1 fun y ε2 μ2 => match dview μ2 o, keyD y with
  | some kvs, some key => (match dget kvs key with
    | some d => k d ε2 μ2
    | none => False)
  | _, _ => False
theorem e_dget {o i : Expr} {wd wk : WE} (hu : X.A.units + 1 < cLine) (ho : EW T X o wd) (hi : EW T X i wk) (hs : NoSl i := by exact fun _ _ => rfl) : EW T X (.Subscript o i pos) (wDGet wd wk) := by
  refine PE.to (pe_dget hu ho hi hs) fun σ H Q h => ?_
  obtain ⟨ω, ρ, ε, μ, k, r, h, q⟩ := h
  refine ⟨ω, ρ, ε, μ, _, r, h, fun ω1 ε1 μ1 x vx H1 le1 r1 rx h1 => ?_⟩
  refine ⟨ω1, ρ, ε1, μ1, _, r1, h1, fun ω2 ε2 μ2 y vy H2 le2 r2 ry h2 => ?_⟩
  split at h2
  · rename_i kvs key hv hk
    split at h2
    · rename_i d hd
      obtain ⟨n, a, ks, e1, e2, hH, rp, _⟩ := r2.m.dcell (Rep.mono le2 x rx) hv
      have ek := keyD_rep ry hk
      subst e2 ek
      rcases rp.get (k := key) with ⟨z, _⟩ | ⟨d', v', g1, g2, g3⟩
      · rw [hd] at z; cases z
      · rw [hd] at g1
        have e3 : d = d' := Option.some.inj g1
        subst e3
        have g := DGet.k (k := key) hH
        rw [g2] at g
        exact ⟨a, v', rfl, g, q ω2 ε2 μ2 d v' H2 (le1.trans le2) r2 g3 h2⟩
    · exact h2.elim
  · exact h2.elim
def wDIn (neg : Bool) (wk wd : WE) : WE := fun ε μ k => wk ε μ fun y ε1 μ1 => wd ε1 μ1 fun o ε2 μ2 => match dview μ2 o, keyD y with
  | some kvs, some key => k (.bl (if neg then !(dget kvs key).isSome else (dget kvs key).isSome)) ε2 μ2
  | _, _ => False
theorem din_of {wd wk : WE} {σ : L2.St} {H : Hp} {Q : VK} (h : tE K T (wDIn false wk wd) σ H Q) : tDIn (tE K T wk) (tE K T wd) σ H Q := by
  obtain ⟨ω, ρ, ε, μ, k, r, h, q⟩ := h
  refine ⟨ω, ρ, ε, μ, _, r, h, fun ω1 ε1 μ1 y vy H1 le1 r1 ry h1 => ?_⟩
  refine ⟨ω1, ρ, ε1, μ1, _, r1, h1, fun ω2 ε2 μ2 x vx H2 le2 r2 rx h2 => ?_⟩
  split at h2
  · rename_i kvs key hv hk
    obtain ⟨n, a, ks, e1, e2, hH, rp, _⟩ := r2.m.dcell rx hv
    have ek := keyD_rep ry hk
    subst e2 ek
    refine ⟨a, _, rfl, DGet.k (k := key) hH, ?_⟩
    have eb : (valV ks key).isSome = (dget kvs key).isSome := by
      rcases rp.get (k := key) with ⟨z1, z2⟩ | ⟨d', v', g1, g2, g3⟩
      · rw [z1, z2] <;> rfl
      · rw [g1, g2] <;> rfl
    rw [eb]
    exact q ω2 ε2 μ2 _ _ H2 (le1.trans le2) r2 repB h2
  · exact h2.elim
theorem t_din {o i : Expr} {wd wk : WE} (hu : X.A.units + 1 < cLine) (hi : EW T X i wk) (ho : EW T X o wd) (h1 : behindInMarks .In o = false := by rfl) : TW T X (.Compare i [.In] [o] pos) (wTest (wDIn false wk wd)) :=
  PT.to (pt_cmp (pc_din hu hi ho) h1) fun σ H Q h => by
    have h2 := tTest_of h
    obtain h3 := tTest_imp (fun _ _ _ z => din_of z) h2
    exact h3
def wDPut (wd wk we : WE) : WS := fun k ε μ => we ε μ fun v ε1 μ1 => wd ε1 μ1 fun o ε2 μ2 => wk ε2 μ2 fun y ε3 μ3 => match o, dview μ3 o, keyD y with
  | .ref n, some kvs, some key => kvs.length < sizeLine ∧ k.nx ε3 (μ3.set n (.dK (dput kvs key v)))
  | _, _, _ => False
theorem s_dput {o i v : Expr} {wd wk : WE} {pos' : Pos} (hu : X.A.units + 1 < cLine) (hv : EW T X v we) (ho : EW T X o wd) (hi : EW T X i wk) (hs : swapsWith v (some (.Subscript o i pos')) pos.line X.env = pure false := by rfl) : SW T X (.Assign [.Subscript o i pos'] v pos) (wDPut wd wk we) := by
  refine PS.to (ps_dput hu ho hi hv hs) fun D σ H h => ?_
  obtain ⟨ω, ρ, ε, μ, k, r, h, q1, q2, q3, q4⟩ := h
  refine ⟨ω, ρ, ε, μ, _, r, h, fun ω1 ε1 μ1 w vw H1 le1 r1 rw' h1 => ?_⟩
  refine ⟨ω1, ρ, ε1, μ1, _, r1, h1, fun ω2 ε2 μ2 x vx H2 le2 r2 rx h2 => ?_⟩
  refine ⟨ω2, ρ, ε2, μ2, _, r2, h2, fun ω3 ε3 μ3 y vy H3 le3 r3 ry h3 => ?_⟩
  split at h3
  · rename_i n kvs key hk hv
    obtain ⟨m, a, ks, e1, e2, hH, rp, wr⟩ := r3.m.dcell (Rep.mono le3 _ rx) hv
    have ek := keyD_rep ry hk
    cases e1
    subst e2 ek
    exact ⟨a, _, rfl, DPut.k (k := key) hH (by rw [rp.length]; exact h3.1), q1 ω3 ε3 _ σ _ (le1.trans (le2.trans le3)) ⟨wr _ _ (rp.put (Rep.mono (le2.trans le3) _ rw')), r3.e⟩ h3.2⟩
  · exact h3.elim
end
end WL
/-! The W layer, part 6: the defs of a text by their names. -/
namespace WL
open PySem PySem.Spec L2
/-- how its arguments bind -/
def BA (fd : FuncData) (ps : List Str) : Prop := ∀ us : List Value, us.length = ps.length → bindArgs fd ⟨us, []⟩ = pure (ps.zip us)
/-- a def of the text, as the top leaves it -/
structure DefW (K : PySem.W.Frag) (mg : Str → Option Value) (x : Str) (st : Stmt) (ps : List Str) : Prop where
  ex : ∃ (f : Addr) (fd : FuncData), Fun K x x st f fd ∧ mg x = some (.ref f) ∧ BA fd ps
/-- a def that may be called by its name -/
structure CalW (P : Program) (w : World) (K : PySem.W.Frag) (mg : Str → Option Value) (base : Heap) (T : List (Addr × Str)) (k : Nat) (x : Str) (fs : FS) : Prop where
  ex : ∃ (f : Addr) (fd : FuncData) (ps : List Str), FnOk P w K mg base CX0 k f fd ps (spOf K T fs) ∧ mg x = some (.ref f) ∧ PySem.W.keepIn K (.ref f) = true ∧ BA fd ps
section
variable {P : Program} {w : World} {K : PySem.W.Frag} {mg : Str → Option Value} {base : Heap} {T : List (Addr × Str)}
theorem cal_w {x : Str} {st : Stmt} {N ps : List Str} {k : Nat} {fs : FS} (D : DefW K mg x st ps) (S : FnScope N ps (defScope st)) (len : ∀ ds μ k, fs ds μ k → ds.length = ps.length)
    (hbody : ∀ (f : Addr) (cdv : Value) (A : Around) (outer : List Env) (s : Shared) (H : Hp) (E : XK), Room k (A.deeper (PyProof.Rows.envOfC x (defScope st) s.heap.objs.size f cdv)) →
      ∃ t, BW T (cxOf CX0 P w K mg base N x (defScope st) f cdv A outer s H E).nox (defBody st) t ∧ ∀ ds μ k, fs ds μ k → t { nx := fun _ μ' => gc μ k .non μ', rt := gc μ k } (startE N ds) μ) : CalW P w K mg base T (k + 1) x fs := by
  obtain ⟨f, fd, F, hm, b⟩ := D.ex
  exact ⟨f, fd, ps, fn_w F S len fun cdv A outer s H E hr => hbody f cdv A outer s H E hr, hm, F.kp, b⟩
theorem CalW.mono {x : Str} {j k : Nat} {fs : FS} (c : CalW P w K mg base T j x fs) (h : j ≤ k) : CalW P w K mg base T k x fs := by
  obtain ⟨f, fd, ps, F, a, b, d⟩ := c.ex
  exact ⟨f, fd, ps, F.mono h, a, b, d⟩
theorem CalW.imp {x : Str} {k : Nat} {fs fs' : FS} (c : CalW P w K mg base T k x fs) (h : ∀ ds μ q, fs' ds μ q → fs ds μ q) : CalW P w K mg base T k x fs' := by
  obtain ⟨f, fd, ps, F, a, b, d⟩ := c.ex
  refine ⟨f, fd, ps, F.imp fun vs H Q E q => ?_, a, b, d⟩
  obtain ⟨ω, ρ, ds, μ, kk, r, rd, hf, qq⟩ := q
  exact ⟨ω, ρ, ds, μ, kk, r, rd, h _ _ _ hf, qq⟩
end
section
variable {T : List (Addr × Str)} {X : Cx} {p pos : Pos} {e : Expr} {es : List Expr} {wt : WA} {j k : Nat} {fs : FS} {x : Str}
theorem e_c (c : CalW X.prog X.w X.K X.mg X.base T k x fs) (hr : Room j X.A) (hk : k ≤ j) (hg : Gl X x) (ha : AW T X (e :: es) wt)
    (hdb : (x == ("__debug__" : Str)) = false := by decide) (he : starEach (e :: es) X.env = (false, eval e X.env) :: starEach es X.env := by rfl) (hpl : (backTo pos (starEach es X.env)).any (·.1) = false := by rfl) :
    EW T X (.Call (.Name x p) (e :: es) [] pos) (wCall fs wt) := by
  obtain ⟨f, fd, ps, F, hm, kp, b⟩ := c.ex
  exact e_call F (hr.mono hk) hg hm kp (.all b) ha hdb he hpl
end
end WL
/-! The W layer, part 7: comprehensions and loops over the items of a plain list. -/
namespace WL
open PySem PySem.Spec L2
variable {α : Type} {g : WG} {t : WT} {we : WE} {b : WS} {εb : En}
theorem lc_inv {kd : List D → Mem → Prop} (h : α → D) (J : List α → List D → Mem → Prop)
    (hs : ∀ a l acc μ (R : List D → Mem → Prop), J (a :: l) acc μ → (∀ acc' μ', J l acc' μ' → R acc' μ') →
      g (h a) εb μ fun ε2 μ2 => t ε2 μ2 fun b ε3 μ3 => ε3 = ε2 ∧ if b = true then we ε3 μ3 fun y ε4 μ4 => ε4 = ε2 ∧ acc.length < sizeLine ∧ R (acc ++ [y]) μ4 else R acc μ3)
    (hk : ∀ acc μ, J [] acc μ → kd acc μ) : ∀ (l : List α) (acc : List D) (μ : Mem), J l acc μ → wLcL g t we εb kd (l.map h) acc μ
  | [], acc, μ, j => hk acc μ j
  | a :: l, acc, μ, j => hs a l acc μ _ j fun acc' μ' j' => lc_inv h J hs hk l acc' μ' j'
theorem lc_map {kd : List D → Mem → Prop} {μ : Mem} (h : α → D) (p : α → Bool) (f : α → D) (l : List α)
    (hs : ∀ a ∈ l, ∀ (acc : List D) (R : List D → Mem → Prop), acc.length < sizeLine → (if p a = true then R (acc ++ [f a]) μ else R acc μ) →
      g (h a) εb μ fun ε2 μ2 => t ε2 μ2 fun b ε3 μ3 => ε3 = ε2 ∧ if b = true then we ε3 μ3 fun y ε4 μ4 => ε4 = ε2 ∧ acc.length < sizeLine ∧ R (acc ++ [y]) μ4 else R acc μ3)
    (hl : l.length ≤ sizeLine) (hk : kd ((l.filter p).map f) μ) : wLcL g t we εb kd (l.map h) [] μ := by
  have key : ∀ (l2 : List α) (acc : List D), (∀ a ∈ l2, a ∈ l) → acc.length + l2.length ≤ sizeLine → kd (acc ++ (l2.filter p).map f) μ → wLcL g t we εb kd (l2.map h) acc μ := by
    intro l2
    induction l2 with
    | nil => intro acc _ _ hk; simpa [wLcL] using hk
    | cons a l2 ih =>
      intro acc hm hlen hk
      refine hs a (hm a (List.mem_cons_self ..)) acc _ (by simp at hlen; omega) ?_
      by_cases hp : p a = true
      · rw [if_pos hp]
        refine ih _ (fun x hx => hm x (List.mem_cons_of_mem _ hx)) (by simp at hlen ⊢; omega) ?_
        simpa [List.filter_cons, hp] using hk
      · rw [if_neg hp]
        refine ih _ (fun x hx => hm x (List.mem_cons_of_mem _ hx)) (by simp at hlen ⊢; omega) ?_
        simpa [List.filter_cons, hp] using hk
  exact key l [] (fun _ h => h) (by simpa using hl) (by simpa using hk)
theorem for_inv {k : WK} (h : α → D) (J : List α → En → Mem → Prop)
    (hs : ∀ a l ε μ (k' : En → Mem → Prop), J (a :: l) ε μ → (∀ ε' μ', J l ε' μ' → k' ε' μ') → g (h a) ε μ fun ε1 μ1 => b { nx := k', rt := k.rt, bk := k.nx, ct := k' } ε1 μ1)
    (hk : ∀ ε μ, J [] ε μ → k.nx ε μ) : ∀ (l : List α) (ε : En) (μ : Mem), J l ε μ → wForL g b k (l.map h) ε μ
  | [], ε, μ, j => hk ε μ j
  | a :: l, ε, μ, j => hs a l ε μ _ j fun ε' μ' j' => for_inv h J hs hk l ε' μ' j'
theorem zw_map (r o : List Int) : List.zipWith (fun x y => D.tup [x, y]) (r.map D.int) (o.map D.int) = (List.zip r o).map fun p => D.tup [.int p.1, .int p.2] := by
  rw [List.zip, List.map_zipWith, List.zipWith_map]
/-- a row of numbers, as a list or a tuple -/
theorem rowOf {d : D} {r : List Int} (h : seqOf d = some (r.map D.int)) : d = .lst (r.map D.int) ∨ d = .fl (r.map D.int) ∨ d = .tup (r.map D.int) := by
  unfold seqOf at h
  split at h <;> simp_all
theorem atI_nat {α : Type} {xs : List α} {p : Nat} (h : p < xs.length) : atI xs (p : Nat) = xs[p]? := by
  unfold atI ixN
  have h1 : ¬ ((p : Int) < 0) := by omega
  simp [h, h1]
/-- element of a list or a tuple by a nonnegative place -/
theorem roIx_at {μ : Mem} {d x : D} {ds : List D} {p : Nat} {k : D → Prop} (h : seqOf d = some ds) (hp : ds[p]? = some x) (hk : k x) : roIx μ d (.int (p : Nat)) k := by
  have hl : p < ds.length := (List.getElem?_eq_some_iff.mp hp).1
  cases d with
  | lst es =>
    have e : es = ds := Option.some.inj h
    subst e
    simp only [roIx, lview, atI_nat hl, hp]
    exact hk
  | fl es =>
    have e : es = ds := Option.some.inj h
    subst e
    simp only [roIx, lview, atI_nat hl, hp]
    exact hk
  | tup es =>
    have e : es = ds := Option.some.inj h
    subst e
    simp only [roIx, atI_nat hl, hp]
    exact hk
  | _ => cases h
theorem roIx_row {μ : Mem} {d : D} {r : List Int} {p : Nat} {k : D → Prop} (h : seqOf d = some (r.map D.int)) (hp : p < r.length) (hk : k (.int (r.getD p 0))) : roIx μ d (.int (p : Nat)) k :=
  roIx_at h (by rw [List.getElem?_map, List.getElem?_eq_getElem hp]; rfl) (by rw [List.getD_eq_getElem?_getD, List.getElem?_eq_getElem hp] at hk; exact hk)
/-! by places -/
theorem for_list {k : WK} (h : α → D) (l : List α) (J : Nat → En → Mem → Prop)
    (hs : ∀ i a ε μ (k' : En → Mem → Prop), l[i]? = some a → J i ε μ → (∀ ε' μ', J (i + 1) ε' μ' → k' ε' μ') → g (h a) ε μ fun ε1 μ1 => b { nx := k', rt := k.rt, bk := k.nx, ct := k' } ε1 μ1)
    (hk : ∀ ε μ, J l.length ε μ → k.nx ε μ) {ε : En} {μ : Mem} (h0 : J 0 ε μ) : wForL g b k (l.map h) ε μ := by
  have key : ∀ (m i : Nat), m + i = l.length → ∀ ε μ, J i ε μ → wForL g b k ((l.drop i).map h) ε μ := by
    intro m
    induction m with
    | zero =>
      intro i hi ε μ j
      rw [List.drop_eq_nil_of_le (by omega)]
      have e : i = l.length := by omega
      subst e
      exact hk ε μ j
    | succ m ih =>
      intro i hi ε μ j
      have hl : i < l.length := by omega
      rw [List.drop_eq_getElem_cons hl]
      exact hs i l[i] ε μ _ (List.getElem?_eq_getElem hl) j fun ε' μ' j' => ih (i + 1) (by omega) ε' μ' j'
  exact key l.length 0 (by omega) ε μ h0
theorem for_range {k : WK} (h : Nat → D) (n : Nat) (J : Nat → En → Mem → Prop)
    (hs : ∀ i ε μ (k' : En → Mem → Prop), i < n → J i ε μ → (∀ ε' μ', J (i + 1) ε' μ' → k' ε' μ') → g (h i) ε μ fun ε1 μ1 => b { nx := k', rt := k.rt, bk := k.nx, ct := k' } ε1 μ1)
    (hk : ∀ ε μ, J n ε μ → k.nx ε μ) {ε : En} {μ : Mem} (h0 : J 0 ε μ) : wForL g b k ((List.range n).map h) ε μ :=
  for_list h (List.range n) J (fun i a ε μ k' hi j hk' => by
    have hl := (List.getElem?_eq_some_iff.mp hi).1
    have e := (List.getElem?_eq_some_iff.mp hi).2
    simp at hl e
    subst e
    exact hs i ε μ k' hl j hk') (fun ε μ j => hk ε μ (by simpa using j)) h0
theorem lc_list {kd : List D → Mem → Prop} (h : α → D) (l : List α) (J : Nat → List D → Mem → Prop)
    (hs : ∀ i a acc μ (R : List D → Mem → Prop), l[i]? = some a → J i acc μ → (∀ acc' μ', J (i + 1) acc' μ' → R acc' μ') →
      g (h a) εb μ fun ε2 μ2 => t ε2 μ2 fun b ε3 μ3 => ε3 = ε2 ∧ if b = true then we ε3 μ3 fun y ε4 μ4 => ε4 = ε2 ∧ acc.length < sizeLine ∧ R (acc ++ [y]) μ4 else R acc μ3)
    (hk : ∀ acc μ, J l.length acc μ → kd acc μ) {μ : Mem} (h0 : J 0 [] μ) : wLcL g t we εb kd (l.map h) [] μ := by
  have key : ∀ (m i : Nat), m + i = l.length → ∀ acc μ, J i acc μ → wLcL g t we εb kd ((l.drop i).map h) acc μ := by
    intro m
    induction m with
    | zero =>
      intro i hi acc μ j
      rw [List.drop_eq_nil_of_le (by omega)]
      have e : i = l.length := by omega
      subst e
      exact hk acc μ j
    | succ m ih =>
      intro i hi acc μ j
      have hl : i < l.length := by omega
      rw [List.drop_eq_getElem_cons hl]
      exact hs i l[i] acc μ _ (List.getElem?_eq_getElem hl) j fun acc' μ' j' => ih (i + 1) (by omega) acc' μ' j'
  exact key l.length 0 (by omega) [] μ h0
/-- no test: a plain map -/
theorem lc_all {kd : List D → Mem → Prop} {μ : Mem} (h : α → D) (f : α → D) (l : List α)
    (hs : ∀ a ∈ l, ∀ (acc : List D) (R : List D → Mem → Prop), acc.length < sizeLine → R (acc ++ [f a]) μ →
      g (h a) εb μ fun ε2 μ2 => we ε2 μ2 fun y ε4 μ4 => ε4 = ε2 ∧ acc.length < sizeLine ∧ R (acc ++ [y]) μ4)
    (hl : l.length ≤ sizeLine) (hk : kd (l.map f) μ) : wLcL g wYes we εb kd (l.map h) [] μ := by
  refine lc_map h (fun _ => true) f l (fun a ha acc R h1 h2 => ?_) hl ?_
  · have := hs a ha acc R h1 (by simpa using h2)
    simpa [wYes] using this
  · rw [List.filter_eq_self.mpr (fun _ _ => rfl)]
    exact hk
/-- numbers that are tested -/
theorem lc_ifs {kd : List D → Mem → Prop} {μ : Mem} (h : α → D) (p : α → Bool) (l : List α)
    (hs : ∀ a ∈ l, ∀ (acc : List D) (R : List D → Mem → Prop), acc.length < sizeLine → (if p a = true then R (acc ++ [h a]) μ else R acc μ) →
      g (h a) εb μ fun ε2 μ2 => t ε2 μ2 fun b ε3 μ3 => ε3 = ε2 ∧ if b = true then we ε3 μ3 fun y ε4 μ4 => ε4 = ε2 ∧ acc.length < sizeLine ∧ R (acc ++ [y]) μ4 else R acc μ3)
    (hl : l.length ≤ sizeLine) (hk : kd ((l.filter p).map h) μ) : wLcL g t we εb kd (l.map h) [] μ := lc_map h p h l hs hl hk
end WL
/-! The W layer, part 8: sorted(live, key=lambda row: abs(row[place])). -/
namespace WL
open PySem PySem.Spec PySem.Calls L2
open PyProof.Rows (IntsAre call_abs_int item_listR callWith_builtin1 callWith_kw)
open LamX (TabB TabS Tabs ExtN CodeO lam_make2)
section
variable {prog : Program} {w : World} {A : Around} {s : Shared}
/-- a lambda of one parameter: abs(r[p]), p captured -/
theorem turn_abs {f c' cc a : Addr} {q : Str} {params : Arguments} {rx px : Str} {p1 p2 p3 p4 p5 : Pos} {scope : Scope} {cl : List (Str × Addr)} {pm ctv : Value} {mg mb : Str → Option Value} {its : List Value} {n : Nat} {i : Int} {t tp : Tok}
    (hroom : A.depth < recursionLimit)
    (hf : s.heap.get? f = some (PySem.W.kla_obj "<lambda>" q params (.Call (.Name "abs" p1) [.Subscript (.Name rx p2) (.Name px p3) p4] [] p5) scope cl pm c' ctv)) (hcd : s.heap.CodeRec (.ref c') q)
    (hco : scope.isCoroutine = false) (hgen : scope.isGenerator = false) (hk : scope.kind = .function) (hcells : ∀ y ∈ scope.names, y.2 ≠ .cell)
    (hbind : ∀ v : Value, bindArgs (PySem.W.kla_fn "<lambda>" q params (.Call (.Name "abs" p1) [.Subscript (.Name rx p2) (.Name px p3) p4] [] p5) scope cl pm (.ref c') ctv) ⟨[v], []⟩ = pure [(rx, v)])
    (hrx : scope.names.lookup rx = some .local) (hpx : scope.names.lookup px = some .free) (hab : scope.names.lookup ("abs" : Str) = some .globalImplicit)
    (hG : s.heap.Ns mainGlobals mg) (hma : mg ("abs" : Str) = none) (hB : s.heap.Ns builtinsNs mb) (hmb : mb "abs" = some (.builtin "abs")) (hlim : s.heap.NoLimit)
    (hcl : cl.lookup px = some cc) (hcc : s.heap.IsCell cc (some (.int (n : Nat) tp))) (hl : s.heap.IsList a its.toArray) (hi : its[n]? = some (.int i t)) (hn : (n : Int) < 2 ^ 63)
    (hdr : (rx == ("__debug__" : Str)) = false) (hdp : (px == ("__debug__" : Str)) = false) (hdc : (px == ("__classdict__" : Str)) = false) :
    wpAny (model prog w) A (call (.ref f) [.ref a]) (PySem.W.KeyPure (.int (if i < 0 then -i else i)) s) (fun _ _ => False) s := by
  refine wpAny_call (PySem.W.kla_callFunE hroom hf rfl hco hgen rfl hcd ?_)
  rw [hbind]
  refine wpAny_pure (wpAny_newFunctionEnv hcells (fun y hy => ?_) (fun h₁ hns hsb => ⟨hlim.fresh _ hsb, ?_⟩) hk)
  · rw [List.mem_singleton.mp hy]
    exact hrx
  have kp : ∀ b o, s.heap.get? b = some o → h₁.get? b = some o := fun b o e => hsb.extBut b o (Nat.ne_of_lt (Heap.lt_size e)) (Heap.get?_push_of_some _ e)
  show codeAny _ _ (.expr _ (PySem.W.envX q scope s.heap.objs.size f (.ref c') cl)) _ _
  refine PySem.W.kla_codeExpr ?_
  refine wpAny_Call_Name_kw (Calls.Name_function_global hk hab (Calls.loadGlobal_builtin (hG.keeps kp) hma (hB.keeps kp) hmb ?_))
  refine callWith_builtin1 ?_ rfl rfl
  refine Calls.spliced_cons ?_
  refine PyProof.Rows.Subscript_ (wpAny_Name (wpAny_loadName_local (v := .ref a) hk hrx hns (by simp) ?_) hdr)
  refine wpAny_Name (wpAny_loadName_free hk hpx hcl (let ⟨o, e, d⟩ := hcc; ⟨o, kp _ _ e, d⟩) ?_ hdc) hdp
  have hl1 : h₁.IsList a its.toArray := by
    obtain ⟨o, e, r⟩ := hl
    exact ⟨o, kp _ _ e, r⟩
  refine item_listR hl1 (by omega) hn (by simpa using hi) ?_
  refine Calls.spliced_nil ?_
  refine call_abs_int fun u tk => ?_
  exact ⟨_, _, rfl, kp, .int _ _⟩
end
def rowL (r : List Int) : D := .lst (r.map D.int)
def keyAt (n : Nat) (r : List Int) : Int := if r.getD n 0 < 0 then -(r.getD n 0) else r.getD n 0
def wSKey (i j : Nat) : WE := fun ε μ k => match ε[i]?, ε[j]? with
  | some (some (.lst ds)), some (some (.int p)) => ∃ (n : Nat) (rows : List (List Int)), p = (n : Nat) ∧ ds = rows.map rowL ∧ rows.length ≤ sizeLine ∧ n < 2 ^ 62 ∧ (∀ r ∈ rows, n < r.length) ∧
      ∀ rs : List (List Int), rs.Perm rows → rs.Pairwise (fun a b => keyAt n a ≤ keyAt n b) → k (.lst (rs.map rowL)) ε μ
  | _, _ => False
theorem each_rep {K : PySem.W.Frag} {ω : Wd} : ∀ {rows : List (List Int)} {xs : List V} {its : List Value}, RepL K ω (rows.map rowL) xs → Vals xs its → PySem.W.EachIs (fun v r => ∃ x, RelV x v ∧ Rep K ω (rowL r) x) its rows
  | [], xs, its, l, r => by
    have e : xs = [] := l
    subst e
    cases r
    exact .nil
  | a :: rows, xs, its, l, r => by
    obtain ⟨v, ys, e, ra, rl⟩ := l
    subst e
    cases r with
    | cons r1 r2 => exact .cons ⟨v, r1, ra⟩ (each_rep rl r2)
theorem rep_each {K : PySem.W.Frag} {ω : Wd} : ∀ {rows : List (List Int)} {its : List Value}, PySem.W.EachIs (fun v r => ∃ x, RelV x v ∧ Rep K ω (rowL r) x) its rows → ∃ xs, Vals xs its ∧ RepL K ω (rows.map rowL) xs
  | _, _, .nil => ⟨[], .nil, rfl⟩
  | _, _, .cons ⟨x, r1, ra⟩ t => by
    obtain ⟨xs, r2, l⟩ := rep_each t
    exact ⟨x :: xs, .cons r1 r2, x, xs, rfl, ra, l⟩
section
variable {T : List (Addr × Str)} {X : Cx}
theorem e_skey (i j : Nat) {x px rx : Str} {c P : Addr} {k : Nat} {params : Arguments} {scope : Scope} {p0 p1 p2 p3 p4 p5 p6 lpos kpos pos : Pos}
    (hi : X.N[i]? = some x) (hv : Vis X.env.scope x) (hj : X.N[j]? = some px) (hvp : Vis X.env.scope px) (hns : X.mg "sorted" = none) (hna : X.mg "abs" = none) (hgs : Gl X "sorted")
    (TB : TabB X.base X.mg c P) (hcode : X.env.code = .ref c) (hmT : (P, X.env.qual ++ "<lambda>") ∈ T) (hu : ∀ p ∈ T, p.1 = P → p.2 = X.env.qual ++ "<lambda>") (hr : Room k X.A) (hdef : defaultsOf params X.env = ([], []))
    (hpc : X.env.scope.names.lookup px = some .cell)
    (hfree : ∀ y ∈ scope.names, y.2 = .free → y.1 = px) (hco : scope.isCoroutine = false) (hgen : scope.isGenerator = false) (hk : scope.kind = .function) (hcells : ∀ y ∈ scope.names, y.2 ≠ .cell)
    (hbind : ∀ (q : Str) (cl : List (Str × Addr)) (pm cv ctv v : Value), bindArgs (PySem.W.kla_fn "<lambda>" q params (.Call (.Name "abs" p1) [.Subscript (.Name rx p2) (.Name px p3) p4] [] p5) scope cl pm cv ctv) ⟨[v], []⟩ = pure [(rx, v)])
    (hrx : scope.names.lookup rx = some .local) (hpx : scope.names.lookup px = some .free) (hab : scope.names.lookup ("abs" : Str) = some .globalImplicit)
    (hdx : (x == ("__debug__" : Str)) = false) (hcx : (x == ("__classdict__" : Str)) = false) (hdr : (rx == ("__debug__" : Str)) = false) (hdp : (px == ("__debug__" : Str)) = false) (hdc : (px == ("__classdict__" : Str)) = false) :
    EW T X (.Call (.Name "sorted" p0) [.Name x p6] [⟨some "key", .Lambda params (.Call (.Name "abs" p1) [.Subscript (.Name rx p2) (.Name px p3) p4] [] p5) scope lpos, kpos⟩] pos) (wSKey i j) := by
  refine ⟨fun pins s σ H Q I h => ?_⟩
  obtain ⟨ω, ρ, ε, μ, kk, r, h, q⟩ := h
  unfold wSKey at h
  split at h
  case h_2 => exact h.elim
  rename_i ds p e1 e2
  obtain ⟨n, rows, rfl, rfl, hz, hn, hlen, hk'⟩ := h
  obtain ⟨v1, s1, rv1⟩ := r.e.2 i _ e1
  obtain ⟨v2, s2, rv2⟩ := r.e.2 j _ e2
  refine wpAny_Call_Name_kw (ld_blt I hgs hns (u := .builtin "sorted") (by decide +kernel) ?_ (by decide) (by decide))
  refine callWith_kw ?_ rfl rfl rfl rfl
  refine Calls.spliced_cons (thn ((pe_var (pos := p6) (i := i) hi hv hdx hcx).run pins s σ H (fun v H1 => v = v1 ∧ H1 = H) I ⟨v1, s1, rfl, rfl⟩) fun u st1 ⟨v, H1, I1, r1, q1⟩ => ?_)
  obtain ⟨rfl, rfl⟩ := q1
  refine Calls.spliced_nil ?_
  show wpAny _ _ (evalAll ((do let v ← eval _ X.env; standAt pos; pure v) :: [])) _ _ st1
  refine wpAny_evalAll_cons (wpAny_bind ?_)
  have hfr : ∀ y ∈ scope.names, y.2 = .free → ∃ c, X.env.cells.lookup y.1 = some c := fun y hy e => by
    rw [hfree y hy e]
    exact I1.ok.has _ (.inl hpc)
  refine lam_make2 I1 TB hcode hmT hu r.m.tab hdef hfr fun f c' pm ctv H1 st2 I2 eN T2 hf hfn hfr2 hco' => ?_
  have r2 : Rm X.K T ω ρ μ H1 := r.m.extN eN T2
  refine wpAny_bind (wpAny_standAt (wpAny_pure ?_))
  refine wpAny_evalAll_nil ?_
  obtain ⟨a, xs, rfl, hsq, rl⟩ := id rv1
  cases (show u = .ref a from r1)
  obtain ⟨its, rv, pl, hz2⟩ := I2.list (.inl (.inl (r2.same _ _ hsq)))
  -- the cell of the captured name
  have rv2 : v2 = .int (n : Nat) := rv2
  subst rv2
  obtain ⟨m, hn', hl⟩ := I2.loc
  obtain ⟨u2, ⟨tp, eu2⟩, l2⟩ := hl j px _ hj s2 hvp
  obtain ⟨cc, hc1, hc2⟩ : ∃ c, X.env.cells.lookup px = some c ∧ st2.heap.IsCell c (some u2) := by
    rcases l2 with ⟨z, _⟩ | ⟨_, c, h1, h2⟩
    · rw [show X.env.kindOf px = X.env.scope.names.lookup px from rfl, hpc] at z
      cases z
    · exact ⟨c, h1, h2⟩
  subst eu2
  have hcl : (cloFrom X.env.cells scope.names []).lookup px = some cc := by
    have hy : (px, NameKind.free) ∈ scope.names := PySem.mem_of_lookup hpx
    obtain ⟨c2, h2⟩ := mem_lookup (cloFrom_has (cells := X.env.cells) (acc := []) hy)
    rcases cloFrom_mem (PySem.mem_of_lookup h2) with hm | ⟨h3, h4⟩
    · cases hm
    · rw [h2, h4]
      rw [hc1]
      rfl
  obtain ⟨⟨oc, vs, t, hoc, hdcO, hvc⟩, _, _⟩ := I2.hok c' _ hco'
  have hE := each_rep rl rv
  obtain ⟨mb, hb1, hb2⟩ := I2.mod.blt
  have hmb : mb ("abs" : Str) = some (.builtin "abs") := (hb2 _ (by decide)).trans (by decide +kernel)
  refine PySem.W.sorted_key_data (b := false) (fun r : List Int => .int (keyAt n r)) pl.isList hE (PySem.W.AllAlike.of fun _ _ => by simp [PySem.W.alike]) (PySem.W.Sortable.others fun _ => ⟨by simp, fun _ => by simp⟩) hz (fun p _ => ?_) (PyProof.Rows.ksk_s1 _ _) (fun _ => PyProof.Rows.ksk_l1 _ _) (fun _ => PyProof.Rows.ksk_t1 _ _) (fun v row hR hrow h tk kp => ?_) fun out c2 h' tk kp fresh hD hol eo => ?_
  · have := hr.units
    have hd : (PyData.int (keyAt n p)).depth = 0 := by simp [PyData.depth]
    omega
  · obtain ⟨x1, rx, hrep⟩ := hR
    obtain ⟨b, ys, rfl, hsb, rlb⟩ := hrep
    cases (show v = .ref b from rx)
    obtain ⟨its2, rvb, plb, _⟩ := I2.list (.inl (.inl (r2.same _ _ hsb)))
    have hnr := hlen row hrow
    have eys := RepL.ints row rlb
    subst eys
    obtain ⟨wv, ew, rw'⟩ := rvb.get (i := n) (x := .int (row.getD n 0)) (by rw [List.getElem?_map, List.getElem?_eq_getElem hnr]; simp [hnr])
    obtain ⟨t2, rfl⟩ := rw'
    have kin := I2.kept (t' := tk) kp
    obtain ⟨o, eo, ro⟩ := plb.isList
    obtain ⟨oq, eq, rq⟩ := hc2
    exact turn_abs (t := t2) (tp := tp) hr.depth (kp _ _ hf) ⟨c', oc, vs, t, rfl, kp _ _ hoc, hdcO, hvc⟩ hco hgen hk hcells (fun v => hbind _ _ _ _ _ v) hrx hpx hab ((I2.mod.glob.keeps I2.bk).keeps kp) hna ((hb1.keeps I2.bk).keeps kp) hmb ((I2.nolimit).keeps kp) hcl ⟨oq, kp _ _ eq, rq⟩ ⟨o, kp _ _ eo, ro⟩ ew (by omega) hdr hdp hdc
  · rw [PySem.W.dataLe_int] at eo
    obtain ⟨xs', rvo, rlo⟩ := rep_each eo
    have hlo : xs'.length ≤ sizeLine := by rw [rlo.length, List.length_map, List.length_mergeSort]; exact hz
    have hge : st2.heap.objs.size ≤ st2.heap.objs.size + 1 := Nat.le_succ _
    have hD0 : H1 (st2.heap.objs.size + 1) = none := I2.hok.fresh hge
    have I3 := I2.laid (t' := tk) (o := .lst xs') kp hge ⟨hlo, out, _, rvo, hD⟩
    obtain ⟨le3, r3⟩ := r2.froze (o := .lst xs') hD0
    refine ⟨.ref _, _, I3, rfl, q _ _ _ (.lst ((rows.mergeSort fun a b => decide (keyAt n a ≤ keyAt n b)).map rowL)) _ _ le3 ⟨r3, r.e.mono le3⟩ ⟨_, xs', rfl, upd_same, RepL.mono le3 _ rlo⟩ (hk' _ (List.mergeSort_perm _ _) ?_)⟩
    have hsrt := List.pairwise_mergeSort (le := fun a b : List Int => decide (keyAt n a ≤ keyAt n b)) (fun a b c h1 h2 => by simp only [decide_eq_true_eq] at *; omega) (fun a b => by simp only [Bool.or_eq_true, decide_eq_true_eq]; omega) rows
    exact hsrt.imp fun h => by simpa using h
end
end WL
/-! The W layer, part 9: t[::-1] of a tuple, sorted(d) of a dict with numbers for keys, elements of rows. -/
namespace WL
open PySem PySem.Spec PySem.Calls L2 PyProof.Rows
open L2 (Inv)
section
variable {prog : Program} {w : World} {A : Around} {E : Value → Shared → Prop} {s : Shared}
theorem applied_rev {sl : Addr} {vl vu vs : Value} {n : Nat} {Q : Int × Int × Nat → Shared → Prop} (hs : s.heap.IsSliceOf sl vl vu vs) (pl : IsPart vl none) (pu : IsPart vu none) (ps : IsPart vs (some (-1)))
    (h : Q ((n : Int) - 1, -1, n) s) : wpAny (model prog w) A (Builtin.Slice.sliceApplied (.ref sl) (pure (n : Int))) Q E s := by
  obtain ⟨os, hos, hcs, hds⟩ := id hs
  unfold Builtin.Slice.sliceApplied Builtin.Slice.sliceFields
  refine wpAny_bind (wpAny_bind (wpAny_field hos hds (x := vl) rfl (wpAny_bind (wpAny_field hos hds (x := vu) rfl (wpAny_bind (wpAny_field hos hds (x := vs) rfl (wpAny_pure ?_)))))))
  refine wpAny_bind (HT.slicePart_ ps ?_)
  show wpAny _ _ (if ((-1 : Int) == 0) = true then _ else _) _ _ s
  rw [if_neg (by decide)]
  refine wpAny_bind (HT.slicePart_ pl (wpAny_bind (HT.slicePart_ pu (wpAny_bind (wpAny_pure ?_)))))
  show wpAny _ _ (match Builtin.Slice.sliceAdjust none none (-1) (n : Int) with | (lo, hi) => pure (lo, (-1 : Int), Builtin.Slice.slicePlaces lo hi (-1))) _ _ s
  have e1 : Builtin.Slice.sliceAdjust none none (-1) (n : Int) = ((n : Int) - 1, -1) := by
    unfold Builtin.Slice.sliceAdjust
    simp
  rw [e1]
  have e2 : Builtin.Slice.slicePlaces ((n : Int) - 1) (-1) (-1) = n := by
    unfold Builtin.Slice.slicePlaces
    simp
    omega
  show wpAny _ _ (pure ((n : Int) - 1, (-1 : Int), Builtin.Slice.slicePlaces ((n : Int) - 1) (-1) (-1))) _ _ s
  rw [e2]
  exact wpAny_pure h
theorem fm_congr {α β : Type} {f g : α → Option β} : ∀ {l : List α}, (∀ a ∈ l, f a = g a) → l.filterMap f = l.filterMap g
  | [], _ => rfl
  | a :: l, h => by rw [List.filterMap_cons, List.filterMap_cons, h a (List.mem_cons_self ..), fm_congr fun b hb => h b (List.mem_cons_of_mem _ hb)]
theorem pick_rev (xs : Array Value) : ((List.range xs.size).filterMap fun (m : Nat) => xs[((xs.size : Int) - 1 + (m : Int) * (-1)).toNat]?).toArray = xs.toList.reverse.toArray := by
  congr 1
  have h1 : (List.range xs.size).reverse.filterMap (xs[·]?) = xs.toList.reverse := by rw [List.filterMap_reverse, PySem.W.krv_all]
  rw [← h1, ← PySem.W.krv_range, List.filterMap_map]
  refine fm_congr fun k hk => ?_
  have := List.mem_range.mp hk
  show xs[((xs.size : Int) - 1 + (k : Int) * (-1)).toNat]? = xs[xs.size - 1 - k]?
  congr 1
  omega
theorem getItem_tuple_rev {t sl : Addr} {items : Array Value} {vl vu vs : Value} {Q : Value → Shared → Prop} (ht : IsTup s.heap t items) (hs : s.heap.IsSliceOf sl vl vu vs) (pl : IsPart vl none) (pu : IsPart vu none) (ps : IsPart vs (some (-1)))
    (h : Q (.ref s.heap.objs.size) { s with heap := s.heap.push { cls := .type "tuple", data := .seq items.toList.reverse.toArray } })
    (hsz : items.size ≤ sizeLine) : wpAny (model prog w) A (getItem (.ref t) (.ref sl)) Q E s := by
  have htake : sizeOk (.seq items.toList.reverse.toArray) := by
    show items.toList.reverse.toArray.size ≤ sizeLine
    simpa using hsz
  obtain ⟨os, hos, hcs, hds⟩ := id hs
  have hTs : s.TypeIs (.ref sl) "slice" := ⟨os, hos, hcs⟩
  unfold getItem
  try with_reducible refine wpAny_holding ?_
  first | refine wpAny_bind (wpAny_pure ?_) | skip
  refine wpAny_bind (wpAny_sequenceKey ht.typeIs (by decide) ?_)
  refine wpAny_bind (wpAny_callSpecial?_slot (name := Str.ofString "__getitem__") ht.typeIs PyProof.Rows.slot_tuple_getitem
    (wpAny_call_entry PyProof.Rows.slot_tuple_getitem ht.typeIs entry_tuple_getitem ?_ (args_tuple_getitem _ _)))
  show wpAny _ _ (Builtin.Tuple.tupleItemsOf (.ref t) >>= _) _ _ s
  refine wpAny_bind (tupleItemsOf_ ht ?_)
  refine wpAny_bind (wpAny_typeOf hTs ?_)
  rw [if_pos (by decide)]
  refine wpAny_bind (applied_rev hs pl pu ps ?_)
  show wpAny _ _ (if (((items.size : Int) - 1) == 0 && (-1 : Int) == 1 && items.size == items.size) = true then _ else _) _ _ s
  rw [if_neg (by simp), pick_rev]
  first
    | exact wpAny_bind (m := Builtin.Tuple.tupleExact _) (wpAny_newObj_type (wpAny_pure ⟨_, rfl, wpAny_pure h⟩) htake)
    | exact wpAny_bind (m := Builtin.Tuple.tupleExact _) (wpAny_newObj_type (wpAny_bind (wpAny_pure (wpAny_pure ⟨_, rfl, wpAny_pure h⟩))) htake)
    | exact wpAny_bind (wpAny_bind (m := Builtin.Tuple.tupleExact _) (wpAny_newObj_type (wpAny_pure (wpAny_pure ⟨_, rfl, wpAny_pure h⟩)) htake))
    | exact wpAny_bind (wpAny_bind (m := Builtin.Tuple.tupleExact _) (wpAny_newObj_type (wpAny_pure ⟨_, rfl, wpAny_pure h⟩) htake))
end
section
variable {T : List (Addr × Str)} {X : Cx}
def wRevT (we : WE) : WE := fun ε μ k => we ε μ fun d ε1 μ1 => match d with
  | .tup ds => k (.tup ds.reverse) ε1 μ1
  | _ => False
theorem e_revT {e : Expr} {we : WE} {k : Nat} {p1 p2 p3 pos : Pos} (he : EW T X e we) : EW T X (.Subscript e (.Slice none none (some (.UnaryOp .USub (.Constant (.int 1) k p1) p2)) p3) pos) (wRevT we) := by
  refine ⟨fun pins s σ H Q I h => ?_⟩
  obtain ⟨ω, ρ, ε, μ, kk, r, h, q⟩ := h
  refine PyProof.Rows.Subscript_ (thn (he.run pins s σ H (fun v H1 => ∃ ω1 ε1 μ1 ds, ω.le ω1 ∧ R X.K T ω1 ρ ε1 μ1 σ H1 ∧ Rep X.K ω1 (.tup ds) v ∧ kk (.tup ds.reverse) ε1 μ1) I ⟨ω, ρ, ε, μ, _, r, h, fun ω1 ε1 μ1 d v H1 le r1 rd h1 => ?_⟩) fun v s1 ⟨x, H1, I1, r1, q1⟩ => ?_)
  · split at h1
    · exact ⟨ω1, ε1, μ1, _, le, r1, rd, h1⟩
    · exact h1.elim
  obtain ⟨ω1, ε1, μ1, ds, le1, rr1, rd1, hk1⟩ := q1
  obtain ⟨a, xs, ex, hx, rl⟩ := id rd1
  subst ex
  cases r1
  have hx : SqT X.K H1 a xs := Same.seqT rr1.m.same hx
  have hst : PO X (some (.UnaryOp .USub (.Constant (.int 1) k p1) p2)) (tPart (tUn (rU fun i => .int (-i)) (tC (.int 1)))) := po_some (pe_un un_neg pe_int)
  refine wpAny_Slice (thn (po_none.run pins s1 σ H1 (fun o H2 => o = none ∧ H2 = H1) I1 ⟨rfl, rfl⟩) fun vl s2 ⟨l, H2, I2, pl, el, e2⟩ => ?_)
  subst el e2
  refine thn (po_none.run pins s2 σ H2 (fun o H3 => o = none ∧ H3 = H2) I2 ⟨rfl, rfl⟩) fun vu s3 ⟨u, H3, I3, pu, eu, e3⟩ => ?_
  subst eu e3
  refine thn (hst.run pins s3 σ H3 (fun o H4 => o = some (-1) ∧ H4 = H3) I3 ⟨1, rfl, -1, rfl, rfl, rfl⟩) fun vs s4 ⟨o, H4, I4, ps, eo, e4⟩ => ?_
  subst eo e4
  have I5 : Inv X pins σ H4 { s4 with heap := s4.heap.push { cls := .type "slice", data := .fields #[vl, vu, vs] } } := I4.kept (t' := s4.toks) fun b ob q => Heap.get?_push_of_some _ q
  obtain ⟨its, r, ht, hz⟩ := I5.tuple hx
  have hlen := r.length
  show wpAny (model X.prog X.w) X.A (subscriptTail e (.Slice none none (some (.UnaryOp .USub (.Constant (.int 1) k p1) p2)) p3) (.ref a) (.ref s4.heap.objs.size)) (EP X pins σ Q) X.xe { s4 with heap := s4.heap.push { cls := .type "slice", data := .fields #[vl, vu, vs] } }
  refine tail_any (ops := [.ref a, .ref s4.heap.objs.size]) ht.typeIs (PyProof.Rows.slot_tuple_getitem.lookup) ?_ (by with_unfolding_all rfl)
  refine getItem_tuple_rev ht (Heap.IsSliceOf.new _ vl vu vs) pl pu ps ?_ (by rw [List.size_toArray]; omega)
  have hfr := I5.hok.fresh (Nat.le_refl _)
  obtain ⟨le5, r5⟩ := rr1.m.froze (o := .tup xs.reverse) hfr
  refine ⟨.ref _, _, I5.laid (t' := s4.toks) (o := .tup xs.reverse) (fun b ob q => Heap.get?_push_of_some _ q) (Nat.le_refl _) ?_, rfl, q _ _ _ (.tup ds.reverse) _ _ (le1.trans le5) ⟨r5, rr1.e.mono le5⟩ ⟨_, xs.reverse, rfl, .inl (.inl upd_same), RepL.mono le5 _ rl.reverse⟩ hk1⟩
  refine ⟨by rw [List.length_reverse]; exact hz, _, r.reverse, ?_⟩
  exact IsTup.new _ _
end
section
theorem ints_at : ∀ {us : List Value} {ks : List Int}, us.length = ks.length → (∀ (j : Nat) (v : Value), us[j]? = some v → ∃ (x : Int) (t : Tok), ks[j]? = some x ∧ v = Value.int x t) → IntsAre us ks
  | [], [], _, _ => .nil
  | u :: us, k :: ks, hl, h => by
    obtain ⟨x, t, e1, e2⟩ := h 0 u rfl
    have e1' : k = x := Option.some.inj e1
    subst e1'
    subst e2
    refine .cons _ _ (ints_at (by simpa using hl) fun j v e => ?_)
    obtain ⟨x, t, a, b⟩ := h (j + 1) v (by simpa using e)
    exact ⟨x, t, by simpa using a, b⟩
  | [], _ :: _, hl, _ => by simp at hl
  | _ :: _, [], hl, _ => by simp at hl
variable {X : Cx}
def rSortedDI : List V → Hp → VK → Prop := fun xs H Q => ∃ (a : Addr) (kvs : List (Key × V)) (ks : List Int), xs = [.ref a] ∧ Rd H a (.dK kvs) ∧ kvs.map (·.1) = ks.map Sum.inl ∧ ks.length < 64 ∧
    ∀ (ys : List Int) p, ys.Perm ks → ys.Pairwise (· ≤ ·) → H p = none → Q (.ref p) (upd H p (.lst (ys.map V.int)))
/-- sorted(d) of a dict with fewer than 64 keys, all numbers -/
theorem call_sortedDI (hcalm : X.calm = true) : CallR X (.builtin "sorted") rSortedDI := by
  intro pins s σ H xs us Q I r q
  obtain ⟨a, kvs, ks, ex, hd, hks, h64, q⟩ := q
  subst ex
  obtain ⟨u, eu, rx⟩ := vals1 r
  subst eu
  cases rx
  obtain ⟨z, lo, vs, rel, dd⟩ := dk_rd I.hok hd
  obtain ⟨ep, hat⟩ := dd.dictAt
  have hkeys : vs.map (·.1) = ks.map Sum.inl := rel.keys.symm.trans hks
  have hl : vs.length = ks.length := by
    have e := congrArg List.length hkeys
    rw [List.length_map, List.length_map] at e
    exact e
  have h16 : vs.length ≤ sizeLine := by rw [hl, sizeLine_eq]; omega
  refine Calls.call_function_entry PyProof.Rows.kind_sorted PyProof.Rows.plain_sorted PyProof.Rows.entry_sorted (PyProof.Rows.args_sorted1 _) ?_
  unfold Builtin.«sorted»
  refine wpAny_bind (m := checkCount "sorted" 1 1 _) (wpAny_pure ?_)
  refine wpAny_bind (PySem.W.kdu_collect (A := X.A.in1) (PySem.W.kdl_dict (knd := mixKind X.prog X.w) (kvs := vs) (ep := ep) lo) (I.ok.hd hcalm) hat h16 fun h' tk acc hk hacc => ?_)
  have hal : acc.toList.length = ks.length := by rw [Array.length_toList, hacc.1, hl]
  have hS : IntsAre acc.toList ks := ints_at hal fun j v e => by
    obtain ⟨k, x, e1, e2⟩ := hacc.2 j v (by rw [← Array.getElem?_toList]; exact e)
    have e3 : (vs.map (·.1))[j]? = some k := by rw [List.getElem?_map, e1]; all_goals rfl
    rw [hkeys, List.getElem?_map] at e3
    cases e4 : ks[j]? with
    | none => rw [e4] at e3; cases e3
    | some y =>
      rw [e4] at e3
      have e5 : Sum.inl y = k := Option.some.inj e3
      subst e5
      obtain ⟨t, ev⟩ := Value.isInt_shape (k := y) (v := v) e2
      exact ⟨y, t, rfl, ev⟩
  have I1 : Inv X pins σ H { s with heap := h', toks := tk } := I.kept hk
  refine wpAny_bind (wpAny_newList ?_ (by rw [hal, sizeLine_eq]; omega))
  have hoL : (h'.push (seqObj "list" acc.toList.toArray 0)).get? h'.objs.size = some (seqObj "list" acc.toList.toArray 0) := Heap.get?_push_size _ rfl
  show wpAny _ _ _ _ _ { s with heap := h'.push (seqObj "list" acc.toList.toArray 0), toks := tk }
  refine wpAny_bind (wpAny_holding (wpAny_call_entry PyProof.Rows.slot_list_sort ⟨_, hoL, rfl⟩ PyProof.Rows.entry_list_sort
    (PyProof.Rows.list_sort_tree (s := { s with heap := h'.push (seqObj "list" acc.toList.toArray 0), toks := tk }) hoL hS (by rw [hal]; exact h64) fun out ys g1 g2 g3 => ⟨_, rfl, ?_⟩)
    (PyProof.Rows.args_list_sort _)))
  obtain ⟨e', he'⟩ := PyProof.Rows.sortedHeap_at (vs := acc.toList) (out := out) hoL
  have hlen : (ys.map V.int).length ≤ sizeLine := by
    rw [List.length_map, g2.length_eq]
    exact Nat.le_trans (Nat.le_of_lt h64) (by decide)
  refine wpAny_pure ⟨_, rfl, .ref h'.objs.size, upd H h'.objs.size (.lst (ys.map V.int)), I1.laid (t' := tk) (fun b u e => ?_) (Nat.le_refl _)
    (show ObjOk X.prog X.w _ _ _ (.lst (ys.map V.int)) from ⟨hlen, out.toList, e', vals_of_ints g1, by rw [Array.toArray_toList]; exact he'⟩), rfl, q ys _ g2 g3 (I1.hok.fresh (Nat.le_refl _))⟩
  have hb : b < h'.objs.size := Heap.lt_size e
  rw [PyProof.Rows.sortedHeap_old (Nat.ne_of_lt hb) (by rw [size_push']; exact Nat.lt_succ_of_lt hb)]
  exact Heap.get?_push_of_some _ e
end
section
variable {K : PySem.W.Frag} {T : List (Addr × Str)}
def keysI {α : Type} : List (Key × α) → Option (List Int)
  | [] => some []
  | (.inl i, _) :: l => (keysI l).map (i :: ·)
  | _ => none
theorem of_keysI {α : Type} : ∀ {l : List (Key × α)} {ks : List Int}, keysI l = some ks → l.map (·.1) = ks.map Sum.inl
  | [], ks, h => by
    have e : [] = ks := Option.some.inj h
    subst e
    rfl
  | (.inl i, x) :: l, ks, h => by
    have h : (keysI l).map (i :: ·) = some ks := h
    cases q : keysI l with
    | none => rw [q] at h; cases h
    | some ms =>
      rw [q] at h
      have e : i :: ms = ks := Option.some.inj h
      subst e
      rw [List.map_cons, of_keysI q]
      rfl
  | (.inr i, x) :: l, ks, h => by cases h
def coSortedDI : CO := fun μ xs k => match xs with
  | [d] => (match dview μ d with
    | some kvs => (match keysI kvs with
      | some ks => ks.length < 64 ∧ ∀ ys : List Int, ys.Perm ks → ys.Pairwise (· ≤ ·) → k (.lst (ys.map D.int))
      | none => False)
    | none => False)
  | _ => False
theorem ok_sortedDI : COk K T rSortedDI coSortedDI := by
  intro ω ρ μ H xs vs k Q r rx h q
  unfold coSortedDI at h
  split at h
  case h_2 => exact h.elim
  rename_i d
  split at h
  case h_2 => exact h.elim
  rename_i kvs hd
  split at h
  case h_2 => exact h.elim
  rename_i ks hks
  obtain ⟨v, e, rd⟩ := RepL.one rx
  obtain ⟨n, a, m, e1, e2, e3, e4, _⟩ := r.dcell rd hd
  subst e e2
  refine ⟨a, m, ks, rfl, .inl e3, by rw [e4.keys]; exact of_keysI hks, h.1, fun ys p hp ho hn => ?_⟩
  obtain ⟨le2, r2⟩ := r.froze (o := .lst (ys.map V.int)) hn
  exact q _ (.lst (ys.map D.int)) _ _ le2 r2 ⟨p, _, rfl, upd_same, RepL.of_ints ys⟩ (h.2 ys hp ho)
end
end WL
/-! The W layer: == [] of lists of numbers and of rows. -/
namespace WL
open PySem PySem.Spec L2
theorem can_ints : ∀ r : List Int, PyData.canLayAll0 (toPyL (r.map D.int)) = true
  | [] => rfl
  | x :: r => by
    have := can_ints r
    simp [toPyL, toPy, PyData.canLayAll0, PyData.canLay0, this]
theorem dep_ints : ∀ r : List Int, PyData.depthAll (toPyL (r.map D.int)) = 0
  | [] => rfl
  | x :: r => by
    have := dep_ints r
    simp [toPyL, toPy, PyData.depthAll, PyData.depth, this]
theorem can_rows {f : List Int → D} (hf : ∀ r, PyData.canLay0 (toPy (f r)) = true) : ∀ rows : List (List Int), PyData.canLayAll0 (toPyL (rows.map f)) = true
  | [] => rfl
  | x :: r => by
    have := can_rows hf r
    simp [toPyL, PyData.canLayAll0, hf x, this]
theorem dep_rows {f : List Int → D} (hf : ∀ r, PyData.depth (toPy (f r)) ≤ 1) : ∀ rows : List (List Int), PyData.depthAll (toPyL (rows.map f)) ≤ 1
  | [] => Nat.zero_le _
  | x :: r => by
    have h1 := dep_rows hf r
    have h2 := hf x
    simp [toPyL, PyData.depthAll]
    omega
theorem sh_ints (r : List Int) : SeqAt.shaped (.list (toPyL (r.map D.int))) = true := by
  simp [SeqAt.shaped, PyData.canLay0, PyData.depth, can_ints, dep_ints]
theorem sh_rowsL (rows : List (List Int)) : SeqAt.shaped (.list (toPyL (rows.map rowL))) = true := by
  have h1 := can_rows (f := rowL) (fun r => by simp [rowL, toPy, PyData.canLay0, can_ints]) rows
  have h2 := dep_rows (f := rowL) (fun r => by simp [rowL, toPy, PyData.depth, dep_ints]) rows
  simp [SeqAt.shaped, PyData.canLay0, PyData.depth, h1]
  omega
theorem sh_rowsT (rows : List (List Int)) : SeqAt.shaped (.list (toPyL (rows.map fun r => D.tup (r.map D.int)))) = true := by
  have h1 := can_rows (f := fun r => D.tup (r.map D.int)) (fun r => by simp [toPy, PyData.canLay0, can_ints]) rows
  have h2 := dep_rows (f := fun r => D.tup (r.map D.int)) (fun r => by simp [toPy, PyData.depth, dep_ints]) rows
  simp [SeqAt.shaped, PyData.canLay0, PyData.depth, h1]
  omega
theorem sh_nil : SeqAt.shaped (.list []) = true := by decide
theorem eqv_nil : ∀ ds : List D, PyData.eqv (.list (toPyL ds)) (.list []) = ds.isEmpty
  | [] => rfl
  | d :: ds => by simp [toPyL, PyData.eqv, PyData.eqvAll]
theorem roEq_nil {μ : Mem} {ds : List D} {k : D → Prop} (hs : SeqAt.shaped (.list (toPyL ds)) = true) (h : k (.bl ds.isEmpty)) : roEq μ (.lst ds) (.lst []) k := by
  refine ⟨hs, sh_nil, ?_⟩
  show k (.bl (PyData.eqv (.list (toPyL ds)) (.list [])))
  rw [eqv_nil]
  exact h
theorem roNe_nil {μ : Mem} {ds : List D} {k : D → Prop} (hs : SeqAt.shaped (.list (toPyL ds)) = true) (h : k (.bl (!ds.isEmpty))) : roNe μ (.lst ds) (.lst []) k := by
  refine ⟨hs, sh_nil, ?_⟩
  show k (.bl (!PyData.eqv (.list (toPyL ds)) (.list [])))
  rw [eqv_nil]
  exact h
/-- of a cell -/
theorem roEq_nilC {μ : Mem} {n : Nat} {ds : List D} {k : D → Prop} (hm : μ[n]? = some (.lst ds)) (hs : SeqAt.shaped (.list (toPyL ds)) = true) (h : k (.bl ds.isEmpty)) : roEq μ (.ref n) (.lst []) k := by
  have e : unref μ (.ref n) = .lst ds := by simp [unref, hm]
  simp only [roEq, eqGen, e]
  refine ⟨hs, sh_nil, ?_⟩
  show k (.bl (PyData.eqv (.list (toPyL ds)) (.list [])))
  rw [eqv_nil]
  exact h
theorem roNe_nilC {μ : Mem} {n : Nat} {ds : List D} {k : D → Prop} (hm : μ[n]? = some (.lst ds)) (hs : SeqAt.shaped (.list (toPyL ds)) = true) (h : k (.bl (!ds.isEmpty))) : roNe μ (.ref n) (.lst []) k := by
  have e : unref μ (.ref n) = .lst ds := by simp [unref, hm]
  simp only [roNe, eqGen, e]
  refine ⟨hs, sh_nil, ?_⟩
  show k (.bl (!PyData.eqv (.list (toPyL ds)) (.list [])))
  rw [eqv_nil]
  exact h
end WL
/-! The W layer: a def whose code object is known. -/
namespace WL
open PySem PySem.Spec L2
/-- a def of the text, its code object at c -/
structure DefWC (K : PySem.W.Frag) (mg : Str → Option Value) (x : Str) (st : Stmt) (ps : List Str) (c : Addr) : Prop where
  ex : ∃ (f : Addr) (oc : Value) (od : Option Addr) (kV doc pm : Value) (an : Option Addr) (ct : Value) (osl : Array (Option Value)),
    K.lookup f = some ⟨oc, od, .func (PySem.W.fnOf x x (defArgs st) (defBody st) (defScope st) .none kV doc pm an (.ref c) ct), osl⟩ ∧ PySem.W.codeIn K (.ref c) x = true ∧ PySem.W.keepIn K (.ref f) = true ∧ mg x = some (.ref f) ∧
    BA (PySem.W.fnOf x x (defArgs st) (defBody st) (defScope st) .none kV doc pm an (.ref c) ct) ps
section
variable {P : Program} {w : World} {K : PySem.W.Frag} {mg : Str → Option Value} {base : Heap} {T : List (Addr × Str)}
theorem cal_wC {x : Str} {st : Stmt} {N ps : List Str} {k : Nat} {fs : FS} {c : Addr} (D : DefWC K mg x st ps c) (S : FnScope N ps (defScope st)) (len : ∀ ds μ k, fs ds μ k → ds.length = ps.length)
    (hbody : ∀ (f : Addr) (A : Around) (outer : List Env) (s : Shared) (H : Hp) (E : XK), Room k (A.deeper (PyProof.Rows.envOfC x (defScope st) s.heap.objs.size f (.ref c))) →
      ∃ t, BW T (cxOf CX0 P w K mg base N x (defScope st) f (.ref c) A outer s H E).nox (defBody st) t ∧ ∀ ds μ k, fs ds μ k → t { nx := fun _ μ' => gc μ k .non μ', rt := gc μ k } (startE N ds) μ) : CalW P w K mg base T (k + 1) x fs := by
  obtain ⟨f, oc, od, kV, doc, pm, an, ct, osl, lk, hcd, kp, hm, b⟩ := D.ex
  refine ⟨f, _, ps, fn_of lk hcd S (fun vs H Q E h => ?_) fun A outer s H vs Q E hr h => ?_, hm, kp, b⟩
  · obtain ⟨ω, ρ, ds, μ, k, rr, rd, h, q⟩ := h
    rw [rd.length]
    exact len ds μ k h
  · obtain ⟨t, ht, hq⟩ := hbody f A outer s H E hr
    obtain ⟨ω, ρ, ds, μ, kk, rr, rd, h, q⟩ := h
    refine ⟨_, ht.nox, ω, ρ, startE N ds, μ, _, ⟨rr, startE_ok rd⟩, hq ds μ kk h, ?_, ?_, ?_, ?_⟩
    · exact fun ω' ε' μ' σ' H' le r' h' => gc_ok (d := .non) (v := .non) rr le r'.m rfl h' q
    · exact fun ω' μ' d v H' le r' rd' h' => gc_ok rr le r' rd' h' q
    · exact fun ω' ε' μ' σ' H' le r' h' => h'.elim
    · exact fun ω' ε' μ' σ' H' le r' h' => h'.elim
end
end WL
/-! The W layer: a comprehension over a list that is a cell and stays as it is. -/
namespace WL
open PySem PySem.Spec L2
def wLcML (n : Nat) (all : List D) (g : WG) (t : WT) (we : WE) (εb : En) (kd : List D → Mem → Prop) : List D → List D → Mem → Prop
  | [], acc, μ => μ[n]? = some (.lst all) ∧ kd acc μ
  | d :: ds, acc, μ => μ[n]? = some (.lst all) ∧ g d εb μ fun ε2 μ2 => t ε2 μ2 fun b ε3 μ3 => ε3 = ε2 ∧ if b = true then we ε3 μ3 fun y ε4 μ4 => ε4 = ε2 ∧ acc.length < sizeLine ∧ wLcML n all g t we εb kd ds (acc ++ [y]) μ4 else wLcML n all g t we εb kd ds acc μ3
def wLcM (i : Nat) (g : WG) (t : WT) (we : WE) (vs : List Nat) : WE := fun ε μ k => match ε[i]? with
  | some (some (.ref n)) => (match μ[n]? with
    | some (.lst ds) => wLcML n ds g t we (wipeE ε vs) (fun acc μ2 => k (.lst acc) ε μ2) ds [] μ
    | _ => False)
  | _ => False
section
variable {T : List (Addr × Str)} {X : Cx} {pos : Pos} {e elt tg iter : Expr} {ifs : List Expr} {scope : Scope} {own : List (Str × Nat)} {we : WE} {wt : WA} {c : WT} {g : WG} {is : List Nat}
theorem lcM_head {n : Nat} {all : List D} {g : WG} {t : WT} {we : WE} {εb : En} {kd : List D → Mem → Prop} {ds acc : List D} {μ : Mem} (h : wLcML n all g t we εb kd ds acc μ) : μ[n]? = some (.lst all) := by
  cases ds with
  | nil => exact h.1
  | cons _ _ => exact h.1
theorem e_lcM (i : Nat) {x : Str} {px : Pos} (hc : X.calm = true) (hN : X.N.Nodup) (ok : BlkOk X.N X.env.scope scope own)
    (hg : ∀ (s : Shared) (H : Hp) (C : Addr) (cl : List (Str × Addr)) (fp : List Addr), GX T (X.blk s H scope (compEnvC scope cl C X.env) fp) tg is g) (ht : ∀ (s : Shared) (H : Hp) (C : Addr) (cl : List (Str × Addr)) (fp : List Addr), TsW T (X.blk s H scope (compEnvC scope cl C X.env) fp) ifs c)
    (he : ∀ (s : Shared) (H : Hp) (C : Addr) (cl : List (Str × Addr)) (fp : List Addr), EW T (X.blk s H scope (compEnvC scope cl C X.env) fp) elt we) (hi : X.N[i]? = some x := by rfl) (hv : Vis X.env.scope x := by first | exact Or.inl rfl | exact Or.inr (Or.inl rfl) | exact Or.inr (Or.inr rfl))
    (hd : (x == ("__debug__" : Str)) = false := by decide) (hcd : (x == ("__classdict__" : Str)) = false := by decide)
    (hsub : ∀ j ∈ is, j ∈ own.map (·.2) := by decide) (hs : ∀ v, foldedSetIterable (.Name x px) X.env v = pure v := by intro _; rfl) :
    EW T X (.ListComp elt [⟨tg, .Name x px, ifs, 0⟩] scope pos) (wLcM i g c we (own.map (·.2))) := by
  refine PE.to (pe_lc (g := tGx X.K T is g) (tt := tT X.K T c) (te := tE X.K T we) hc hN (pi_seq (pe_var (i := i) hi hv hd hcd)) ok hg ht he hs) fun σ H Q h => ?_
  obtain ⟨ω, ρ, ε, μ, k, rr, h, q⟩ := h
  unfold wLcM at h
  split at h
  case h_2 => exact h.elim
  rename_i n hε
  split at h
  case h_2 => exact h.elim
  rename_i all hμ
  obtain ⟨v, hσ, a, hφ, ev⟩ := rr.e.2 i _ hε
  subst ev
  have cellOf : ∀ {ω' : Wd} {ρ' : Hp} {μ' : Mem} {H' : Hp}, ω.le ω' → Rm X.K T ω' ρ' μ' H' → μ'[n]? = some (.lst all) → ∃ xs, H' a = some (.lst xs) ∧ RepL X.K ω' all xs := fun {ω' ρ' μ' H'} le r hm => (r.cells n a _ (le.at hφ) hm).1
  obtain ⟨xs0, hx0, hr0⟩ := cellOf (Wd.le.refl _) rr.m hμ
  refine ⟨.ref a, hσ, .inl ⟨a, rfl, ⟨xs0, .inl (.inl hx0)⟩, ?_⟩⟩
  intro Dp hD
  obtain ⟨n1, n2, n3⟩ := rr.m.new hD
  have eb := rr.e.wipe (own.map (·.2))
  refine ⟨fun i m H' => m = all.length - i ∧ i ≤ all.length ∧ ∃ ω' μ' acc xs, ω.le ω' ∧ Rm X.K T ω' (upd ρ Dp (.lst xs)) μ' H' ∧ RepL X.K ω' acc xs ∧ wLcML n all g c we (wipeE ε (own.map (·.2))) (fun acc μ2 => k (.lst acc) ε μ2) (all.drop i) acc μ', ⟨_, rfl, Nat.zero_le _, ω, μ, [], [], Wd.le.refl _, ?_, RepL.nil, h⟩, fun i m H' hW => ?_⟩
  · have r2 := rr.m.skip (o := .lst []) hD
    refine ⟨r2.same, r2.nd, r2.len, r2.cells, r2.tab, fun a o ha => ?_, fun b ps => ⟨(r2.nt b ps).1, nt_upd (r2.nt b ps).2⟩⟩
    by_cases he : a = Dp
    · subst he
      rw [upd_same] at ha ⊢
      exact ⟨ha, n1, n2⟩
    · rw [upd_ne he] at ha
      exact r2.fr a o ha
  obtain ⟨hm, hi', ω2, μ2, acc, xs, le2, r2, ra, h2⟩ := hW
  have hcell := lcM_head h2
  obtain ⟨ys, hy1, hy2⟩ := cellOf le2 r2 hcell
  by_cases hl : i < all.length
  · refine .inr ⟨⟨ys, ys[i]'(by rw [hy2.length]; exact hl), .inl (.inl hy1), List.getElem?_eq_getElem _⟩, fun H3 => ∃ ω' μ' acc xs, ω.le ω' ∧ Rm X.K T ω' (upd ρ Dp (.lst xs)) μ' H3 ∧ RepL X.K ω' acc xs ∧ wLcML n all g c we (wipeE ε (own.map (·.2))) (fun acc μ2 => k (.lst acc) ε μ2) (all.drop (i + 1)) acc μ', fun H3 z => ⟨all.length - (i + 1), by omega, rfl, hl, z⟩, fun x H3 hy => ?_⟩
    obtain ⟨eH, hx⟩ := hy
    subst eH
    obtain ⟨v, v1, v2⟩ := hy2.get (List.getElem?_eq_getElem hl)
    have e2 := hx ys (.inl (.inl hy1))
    rw [v1] at e2
    have e3 : v = x := Option.some.inj e2
    subst e3
    rw [List.drop_eq_getElem_cons hl] at h2
    refine ⟨ω2, _, wipeE ε (own.map (·.2)), μ2, _, all[i], ⟨r2, eb.mono le2⟩, v2, h2.2, fun ω4 ε4 μ4 σ4 H4 le4 r4 hl4 hs4 h4 => ?_⟩
    refine ⟨wipe_same hsub (hl4.trans (wipe_length _ _)) hs4, ω4, _, ε4, μ4, _, r4, h4, fun ω5 ε5 μ5 b H5 le5 r5 h5 => ?_⟩
    obtain ⟨e5, h5⟩ := h5
    have l5 := le2.trans (le4.trans le5)
    cases b with
    | true =>
      show tE X.K T we σ4 H5 _
      refine ⟨ω5, _, ε5, μ5, _, r5, h5, fun ω6 ε6 μ6 y vy H6 le6 r6 ry h6 => ?_⟩
      obtain ⟨e6, hz6, h6⟩ := h6
      have hD6 := (r6.m.fr Dp (.lst xs) upd_same)
      refine ⟨xs, hD6.1, by rw [ra.length]; exact hz6, ω6, μ6, acc ++ [y], xs ++ [vy], l5.trans le6, ?_, RepL.append (RepL.mono (le4.trans (le5.trans le6)) _ ra) (RepL.cons ry RepL.nil), h6⟩
      have nD : ∀ b o, H6 b = some o → b ≠ Dp → upd H6 Dp (.lst (xs ++ [vy])) b = some o := fun b o e hb => by rw [upd_ne hb]; exact e
      refine ⟨fun b o e => ?_, r6.m.nd, r6.m.len, fun n a c h7 h8 => ?_, tabs_upd r6.m.tab hD6.1 (fun ps z => by cases z) (fun φ z => by cases z), fun a o ha => ?_, fun b ps => ⟨(r6.m.nt b ps).1, nt_upd (nt_ne n3 (r6.m.nt b ps).2)⟩⟩
      · exact nD b o (r6.m.same _ _ e) (ne_of_none e hD6.2.2)
      · obtain ⟨c1, c2⟩ := r6.m.cells n a c h7 h8
        have na : a ≠ Dp := fun z => hD6.2.1 (z ▸ List.mem_of_getElem? h7)
        exact ⟨c1.mono (Wd.le.refl _) fun o q => nD a o q na, c2⟩
      · by_cases he : a = Dp
        · subst he
          rw [upd_same] at ha ⊢
          exact ⟨ha, hD6.2⟩
        · rw [upd_ne he] at ha
          have ha' : upd ρ Dp (.lst xs) a = some o := by rw [upd_ne he]; exact ha
          obtain ⟨f1, f2⟩ := r6.m.fr a o ha'
          exact ⟨nD a o f1 he, f2⟩
    | false =>
      show ∃ ω' μ' acc xs, _
      exact ⟨ω5, μ5, acc, xs, l5, r5.m, RepL.mono (le4.trans le5) _ ra, h5⟩
  · have hie : i = all.length := by omega
    subst hie
    refine .inl ⟨⟨ys, .inl (.inl hy1), by rw [hy2.length]; exact Nat.le_refl _⟩, ?_⟩
    rw [List.drop_eq_nil_of_le (by omega)] at h2
    obtain ⟨f1, f2, f3⟩ := r2.fr Dp (.lst xs) upd_same
    have r3 : R X.K T ω2 ρ ε μ2 σ H' := by
      refine ⟨⟨r2.same, r2.nd, r2.len, r2.cells, r2.tab, fun a o ha => ?_, fun b ps => ⟨(r2.nt b ps).1, nt_ne n3 (r2.nt b ps).2⟩⟩, rr.e.mono le2⟩
      have na : a ≠ Dp := ne_of_none ha n3
      exact r2.fr a o (by rw [upd_ne na]; exact ha)
    obtain ⟨ω3, le3, r4, rp⟩ := late_lst r3 f1 f2 f3 n3 ra
    exact q ω3 ε μ2 _ _ H' (le2.trans le3) r4 rp h2.2
end
/-- a test of each item that leaves all as it is -/
theorem lcM_ifs {α : Type} {n : Nat} {all : List D} {g : WG} {t : WT} {we : WE} {εb : En} {kd : List D → Mem → Prop} {μ : Mem} (h : α → D) (p : α → Bool) (l : List α) (hm : μ[n]? = some (.lst all))
    (hs : ∀ a ∈ l, ∀ (acc : List D) (R : List D → Mem → Prop), acc.length < sizeLine → (if p a = true then R (acc ++ [h a]) μ else R acc μ) →
      g (h a) εb μ fun ε2 μ2 => t ε2 μ2 fun b ε3 μ3 => ε3 = ε2 ∧ if b = true then we ε3 μ3 fun y ε4 μ4 => ε4 = ε2 ∧ acc.length < sizeLine ∧ R (acc ++ [y]) μ4 else R acc μ3)
    (hl : l.length ≤ sizeLine) (hk : kd ((l.filter p).map h) μ) : wLcML n all g t we εb kd (l.map h) [] μ := by
  have key : ∀ (l2 : List α) (acc : List D), (∀ a ∈ l2, a ∈ l) → acc.length + l2.length ≤ sizeLine → kd (acc ++ (l2.filter p).map h) μ → wLcML n all g t we εb kd (l2.map h) acc μ := by
    intro l2
    induction l2 with
    | nil => intro acc _ _ hk; exact ⟨hm, by simpa using hk⟩
    | cons a l2 ih =>
      intro acc hm2 hlen hk
      refine ⟨hm, hs a (hm2 a (List.mem_cons_self ..)) acc _ (by simp at hlen; omega) ?_⟩
      by_cases hp : p a = true
      · rw [if_pos hp]
        refine ih _ (fun x hx => hm2 x (List.mem_cons_of_mem _ hx)) (by simp at hlen ⊢; omega) ?_
        simpa [List.filter_cons, hp] using hk
      · rw [if_neg hp]
        refine ih _ (fun x hx => hm2 x (List.mem_cons_of_mem _ hx)) (by simp at hlen ⊢; omega) ?_
        simpa [List.filter_cons, hp] using hk
  exact key l [] (fun _ h => h) (by simpa using hl) (by simpa using hk)
end WL
/-! The W layer: the end of a law row. -/
namespace WL
open PySem PySem.Spec L2
section
variable {K : PySem.W.Frag} {h : Heap} {mg : Str → Option Value} {x : Str} {st : Stmt} {ps : List Str} {f c : Addr} {oc kV doc pm cdv ct : Value} {od an : Option Addr} {osl : Array (Option Value)}
theorem def_mk (X : K.In h) (G : h.Ns mainGlobals mg) (a : PySem.W.nsIn K mainGlobals x = some (some (.ref f))) (l : K.lookup f = some ⟨oc, od, .func (PySem.W.fnOf x x (defArgs st) (defBody st) (defScope st) .none kV doc pm an cdv ct), osl⟩)
    (cc : PySem.W.codeIn K cdv x = true) (k : PySem.W.keepIn K (.ref f) = true)
    (b : ∀ (kV doc pm : Value) (an : Option Addr) (cdv ct : Value) (us : List Value), us.length = ps.length → bindArgs (PySem.W.fnOf x x (defArgs st) (defBody st) (defScope st) .none kV doc pm an cdv ct) ⟨us, []⟩ = pure (ps.zip us)) : DefW K mg x st ps :=
  ⟨f, _, fun_mk l cc k, PySem.W.mg_of X G a, b kV doc pm an cdv ct⟩
theorem defc_mk (X : K.In h) (G : h.Ns mainGlobals mg) (a : PySem.W.nsIn K mainGlobals x = some (some (.ref f))) (l : K.lookup f = some ⟨oc, od, .func (PySem.W.fnOf x x (defArgs st) (defBody st) (defScope st) .none kV doc pm an (.ref c) ct), osl⟩)
    (cc : PySem.W.codeIn K (.ref c) x = true) (k : PySem.W.keepIn K (.ref f) = true)
    (b : ∀ (kV doc pm : Value) (an : Option Addr) (cdv ct : Value) (us : List Value), us.length = ps.length → bindArgs (PySem.W.fnOf x x (defArgs st) (defBody st) (defScope st) .none kV doc pm an cdv ct) ⟨us, []⟩ = pure (ps.zip us)) : DefWC K mg x st ps c :=
  ⟨f, oc, od, kV, doc, pm, an, ct, osl, l, cc, k, PySem.W.mg_of X G a, b kV doc pm an (.ref c) ct⟩
theorem law_mk {fa : Addr} (X : K.In h) (G : h.Ns mainGlobals mg) (hm : mg "law" = some (.ref fa)) (a : PySem.W.nsIn K mainGlobals "law" = some (some (.ref f))) (l : K.lookup f = some ⟨oc, od, .func (PySem.W.fnOf "law" "law" (defArgs st) (defBody st) (defScope st) .none kV doc pm an cdv ct), osl⟩)
    (cc : PySem.W.codeIn K cdv "law" = true) (k : PySem.W.keepIn K (.ref f) = true)
    (b : ∀ (kV doc pm : Value) (an : Option Addr) (cdv ct : Value) (us : List Value), us.length = 1 → bindArgs (PySem.W.fnOf "law" "law" (defArgs st) (defBody st) (defScope st) .none kV doc pm an cdv ct) ⟨us, []⟩ = pure ((["script"] : List Str).zip us)) :
    ∃ fd : FuncData, (∀ (s : Shared) (u : Value), BindsTo s fd ⟨[u], []⟩ [("script", u)]) ∧ Fun K "law" "law" st fa fd := by
  have e := hm.symm.trans (PySem.W.mg_of X G a)
  cases e
  exact ⟨_, fun s u => .of_eq (b kV doc pm an cdv ct [u] rfl), fun_mk l cc k⟩
end
/-- the law's promise: the script a foreign list of numbers, true in the end -/
def fsTrue (n : Nat) : FS := fun ds μ k => ∃ s : List Int, ds = [.fl (s.map D.int)] ∧ μ = [] ∧ s.length ≤ n ∧ ∀ μ', k (.bl true) μ'
def noTbl (H : Hp) : Hp := fun b => match H b with
  | some (.tbl _) => none
  | o => o
theorem noTbl_some {H : Hp} {b : Addr} {o : HO} (h : noTbl H b = some o) : H b = some o ∧ ∀ ps, o ≠ .tbl ps := by
  unfold noTbl at h
  split at h
  · cases h
  · rename_i o' hn
    exact ⟨h, fun ps e => hn ps (by rw [h, e])⟩
theorem noTbl_of {H : Hp} {b : Addr} {o : HO} (h : H b = some o) (n : ∀ ps, o ≠ .tbl ps) : noTbl H b = some o := by
  unfold noTbl
  split
  · rename_i ps e
    rw [h] at e
    exact absurd (Option.some.inj e) (n ps)
  · exact h
theorem sp_true {K : PySem.W.Frag} {T : List (Addr × Str)} {H : Hp} {a : Addr} {ns : List Int} {n : Nat} (hT : ∀ p ∈ T, H p.1 = some (.tbl #[])) (hS : SqL K H a (ns.map V.int)) (hl : ns.length ≤ n) :
    spOf K T (fsTrue n) [.ref a] H (fun v _ => v = .bl true) fun _ _ _ => False := by
  refine ⟨⟨[], noTbl H⟩, fun _ => none, [.fl (ns.map D.int)], [], fun d _ => d = .bl true, ⟨fun b o h => (noTbl_some h).1, List.nodup_nil, rfl, fun n a c h => absurd h (by simp), fun p hp => LamX.TabS.nil (hT p hp), fun a o h => absurd h (by simp), fun b ps => ⟨fun h => (noTbl_some h).2 ps rfl, by simp⟩⟩, ?_, ⟨ns, rfl, rfl, hl, fun _ => rfl⟩, fun ω' d μ' v H' _ _ rd hd => ?_⟩
  · refine ⟨.ref a, [], rfl, ⟨a, ns.map V.int, rfl, ?_, RepL.of_ints ns⟩, rfl⟩
    rcases hS with (h | ⟨o, h⟩) | h
    · exact .inl (.inl (noTbl_of h fun ps z => by cases z))
    · exact .inl (.inr ⟨o, noTbl_of h fun ps z => by cases z⟩)
    · exact .inr h
  · subst hd
    exact rd
/-- the law row's end, with the tables ts of code objects -/
theorem law_end {l : PySem.W.OpenLaw} {n k : Nat} {q : Program} {loose : List Str} {XP : (Str → Option Value) → Heap → Prop} {YP : World → Heap → Prop} {d : DefRec} {K : Params → PySem.W.Frag} (T : List (Addr × Str)) (cs : List (Addr × Addr)) (hcs : ∀ p ∈ T, p.1 ∈ cs.map (·.2))
    (hn : l.most = some n) (hn2 : n ≤ sizeLine) (hdf : d.params.defaults = []) (hr : Room k callerA) (hY : ∀ (w : World) (h : Heap), YP w h → (K w.params).In h)
    (F : ∀ (w : World) (mg : Str → Option Value) (fa : Addr) (h : Heap), YP w h → (K w.params).In h → h.Ns mainGlobals mg → mg d.name = some (.ref fa) →
      (∀ p ∈ cs, h.get? p.2 = some { cls := .none, data := .fields #[] }) ∧ (∀ p ∈ cs, (K w.params).lookup p.2 = none) ∧ (∀ p ∈ cs, PySem.W.CodeHd h p.1 p.2) ∧
      ∃ fd : FuncData, (∀ (s : Shared) (u : Value), BindsTo s fd ⟨[u], []⟩ [("script", u)]) ∧
        ∀ base : Heap, (K w.params).In base → base.Ns mainGlobals mg → (∀ p ∈ cs, LamX.TabB base mg p.1 p.2) → FnOk l.prog w (K w.params) mg base CX0 k fa fd ["script"] (spOf (K w.params) T (fsTrue n))) :
    PySem.W.WalkO q loose XP YP l.row.toRowW d [] (fun f vs => PySem.call f vs) :=
  LamX.walk_ofTs (CX := fun _ => CX0) (x := "script") hn hn2 hdf hr hY (fun w mg fa h Y KX G hm => by
    obtain ⟨h1, h2, h3, fd, h4, h5⟩ := F w mg fa h Y KX G hm
    exact ⟨fd, cs, _, h1, h2, h3, h4, fun H a ns hl _ hH hS => sp_true (fun p hp => by
      obtain ⟨c, hc, e⟩ := List.mem_map.mp (hcs p hp)
      rw [← e]
      exact hH c hc) hS hl, h5⟩) fun _ _ _ _ _ z => z
end WL
/-! The W layer: instances, their fields and methods. -/
namespace WL
open PySem PySem.Spec L2
theorem RepP.look {K : PySem.W.Frag} {ω : Wd} {f : Str} : ∀ {l : List (Str × D)} {m : List (Str × V)}, RepP K ω l m → (l.lookup f = none ∧ m.lookup f = none) ∨ ∃ d v, l.lookup f = some d ∧ m.lookup f = some v ∧ Rep K ω d v
  | _, _, .nil => .inl ⟨rfl, rfl⟩
  | p :: l, q :: m, .cons ⟨e, r⟩ t => by
    obtain ⟨a, b⟩ := p
    obtain ⟨c, d⟩ := q
    have e : a = c := e
    subst e
    rw [List.lookup_cons, List.lookup_cons]
    cases h : f == a with
    | true => exact .inr ⟨b, d, rfl, rfl, r⟩
    | false => exact RepP.look t
def putD (f : Str) (v : D) : List (Str × D) → List (Str × D)
  | [] => [(f, v)]
  | (g, x) :: r => if g = f then (g, v) :: r else (g, x) :: putD f v r
theorem RepP.putF {K : PySem.W.Frag} {ω : Wd} {f : Str} {d : D} {v : V} (rd : Rep K ω d v) : ∀ {l : List (Str × D)} {m : List (Str × V)}, RepP K ω l m → RepP K ω (putD f d l) (putF f v m)
  | _, _, .nil => .cons ⟨rfl, rd⟩ .nil
  | p :: l, q :: m, .cons ⟨e, r⟩ t => by
    obtain ⟨a, b⟩ := p
    obtain ⟨c, e2⟩ := q
    have e : a = c := e
    subst e
    unfold putD L2.putF
    split
    · exact .cons ⟨rfl, rd⟩ t
    · exact .cons ⟨rfl, r⟩ (RepP.putF rd t)
theorem RepP.len {κ : Type} {K : PySem.W.Frag} {ω : Wd} {l : List (κ × D)} {m : List (κ × V)} (r : RepP K ω l m) : m.length = l.length := by
  induction r with
  | nil => rfl
  | cons _ _ ih => simp [ih]
/-- the fields of an instance of the class at C -/
def iview (C : Addr) (μ : Mem) : D → Option (List (Str × D))
  | .ref n => match μ[n]? with
    | some (.ins C' fs) => if C' = C then some fs else none
    | _ => none
  | _ => none
theorem Rm.icell {K : PySem.W.Frag} {T : List (Addr × Str)} {ω : Wd} {ρ : Hp} {μ : Mem} {H : Hp} {C : Addr} {d : D} {v : V} {fs : List (Str × D)} (r : Rm K T ω ρ μ H) (rd : Rep K ω d v) (h : iview C μ d = some fs) :
    ∃ n a dx gs, d = .ref n ∧ v = .ref a ∧ ω.φ[n]? = some a ∧ H a = some (.ins C dx gs) ∧ RepP K ω fs gs ∧ ∀ fs' gs', RepP K ω fs' gs' → Rm K T ω ρ (μ.set n (.ins C fs')) (upd H a (.ins C dx gs')) := by
  cases d with
  | ref n =>
    obtain ⟨a, e, f⟩ := rd
    have hh : (match μ[n]? with | some (.ins C' fs) => if C' = C then some fs else none | _ => none) = some fs := h
    clear h
    split at hh
    · rename_i C' fs' hm
      split at hh
      · rename_i hC
        subst hC
        have e1 : fs' = fs := Option.some.inj hh
        subst e1
        obtain ⟨⟨dx, gs, h1, h2⟩, _⟩ := r.cells n a _ e hm
        exact ⟨n, a, dx, gs, rfl, f, e, h1, h2, fun fs2 gs2 q => r.write e hm (by intro z; cases z) (by intro z; cases z) h1 (fun ps z => by cases z) (fun φ z => by cases z) ⟨dx, gs2, upd_same, q⟩⟩
      · cases hh
    · cases hh
  | _ => cases h
def wFld (C : Addr) (we : WE) (f : Str) : WE := fun ε μ k => we ε μ fun d ε1 μ1 => match iview C μ1 d with
  | some fs => (match fs.lookup f with
    | some x => k x ε1 μ1
    | none => False)
  | none => False
def wSFld (C : Addr) (wo we : WE) (f : Str) : WS := fun k ε μ => we ε μ fun v ε1 μ1 => wo ε1 μ1 fun o ε2 μ2 => match o, iview C μ2 o with
  | .ref n, some fs => fs.length < 1000 ∧ k.nx ε2 (μ2.set n (.ins C (putD f v fs)))
  | _, _ => False
def wSFldAug (C : Addr) (wo we : WE) (f : Str) (ro : RO) : WS := fun k ε μ => wo ε μ fun o ε1 μ1 => match o, iview C μ1 o with
  | .ref n, some fs => (match fs.lookup f with
    | some x => we ε1 μ1 fun y ε2 μ2 => ro μ2 x y fun z => (match iview C μ2 (.ref n) with
      | some fs' => fs'.length < 1000 ∧ k.nx ε2 (μ2.set n (.ins C (putD f z fs')))
      | none => False)
    | none => False)
  | _, _ => False
def wMeth (C : Addr) (m : Str) (g : FS) (wo : WE) (wt : WA) : WE := fun ε μ k => wo ε μ fun o ε1 μ1 => match iview C μ1 o with
  | some fs => fs.lookup m = none ∧ wt ε1 μ1 fun ds ε2 μ2 => g (o :: ds) μ2 fun d μ3 => k d ε2 μ3
  | none => False
def wMake (C : Addr) (g : FS) (wt : WA) : WE := fun ε μ k => wt ε μ fun ds ε1 μ1 => g (.ref μ1.length :: ds) (μ1 ++ [.ins C []]) fun d μ2 => d = .non ∧ k (.ref μ1.length) ε1 μ2
section
variable {T : List (Addr × Str)} {X : Cx} {C : Addr} {e o : Expr} {es : List Expr} {f m x : Str} {p pos pos' tpos apos : Pos} {we wo : WE} {wt : WA} {k j : Nat} {fs : FS}
theorem e_fld (c : Cls X.K C) (na : NoAttr X.K C f) (he : EW T X e we) (hb : attributeBase e f X.env (eval e X.env) = eval e X.env := by rfl) : EW T X (.Attribute e f pos) (wFld C we f) := by
  refine PE.to (pe_fld he hb) fun σ H Q h => ?_
  obtain ⟨ω, ρ, ε, μ, k, r, h, q⟩ := h
  refine ⟨ω, ρ, ε, μ, _, r, h, fun ω1 ε1 μ1 d v H1 le1 r1 rd h1 => ?_⟩
  split at h1
  · rename_i fs hi
    split at h1
    · rename_i y hy
      obtain ⟨n, a, dx, gs, e1, e2, _, e3, e4, _⟩ := r1.m.icell rd hi
      rcases e4.look (f := f) with ⟨z, _⟩ | ⟨d', v', z1, z2, z3⟩
      · rw [hy] at z; cases z
      · rw [hy] at z1
        cases z1
        exact ⟨a, C, dx, gs, v', e2, e3, c, na, z2, q ω1 ε1 μ1 y v' H1 le1 r1 z3 h1⟩
    · exact h1.elim
  · exact h1.elim
theorem s_fld {value : Expr} (c : Cls X.K C) (na : NoAttr X.K C f) (ho : EW T X o wo) (hv : EW T X value we) (hs : swapsWith value (some (.Attribute o f pos')) pos.line X.env = pure false := by rfl) : SW T X (.Assign [.Attribute o f pos'] value pos) (wSFld C wo we f) := by
  refine PS.to (ps_fld ho hv hs) fun D σ H h => ?_
  obtain ⟨ω, ρ, ε, μ, k, r, h, q1, q2, q3, q4⟩ := h
  refine ⟨ω, ρ, ε, μ, _, r, h, fun ω1 ε1 μ1 y vy H1 le1 r1 ry h1 => ?_⟩
  refine ⟨ω1, ρ, ε1, μ1, _, r1, h1, fun ω2 ε2 μ2 d v H2 le2 r2 rd h2 => ?_⟩
  split at h2
  · rename_i n fs hi
    obtain ⟨n', a, dx, gs, e1, e2, e0, e3, e4, e5⟩ := r2.m.icell rd hi
    cases e1
    refine ⟨a, C, dx, gs, e2, e3, c, na, by rw [e4.len]; exact h2.1, q1 ω2 ε2 _ σ _ (le1.trans le2) ⟨e5 _ _ (e4.putF (Rep.mono le2 _ ry)), r2.e⟩ h2.2⟩
  · exact h2.elim
theorem s_fldaug {value : Expr} {op : Operator} {rd : V → V → Hp → VK → Prop} {ro : RO} (c : Cls X.K C) (na : NoAttr X.K C f) (ho : EW T X o wo) (hv : EW T X value we) (hop : InOp X op rd) (hr : ROk X.K T rd ro) : SW T X (.AugAssign (.Attribute o f tpos) op value pos) (wSFldAug C wo we f ro) := by
  refine PS.to (ps_fldaug ho hv hop) fun D σ H h => ?_
  obtain ⟨ω, ρ, ε, μ, k, r, h, q1, q2, q3, q4⟩ := h
  refine ⟨ω, ρ, ε, μ, _, r, h, fun ω1 ε1 μ1 d v H1 le1 r1 rd h1 => ?_⟩
  split at h1
  · rename_i n fs hi
    split at h1
    · rename_i y hy
      obtain ⟨n', a, dx, gs, e1, e2, e0, e3, e4, e5⟩ := r1.m.icell rd hi
      cases e1
      rcases e4.look (f := f) with ⟨z, _⟩ | ⟨d', v', z1, z2, z3⟩
      · rw [hy] at z; cases z
      · rw [hy] at z1
        cases z1
        refine ⟨a, C, dx, gs, v', e2, e3, c, na, z2, ω1, ρ, ε1, μ1, _, r1, h1, fun ω2 ε2 μ2 y2 vy2 H2 le2 r2 ry2 h2 => ?_⟩
        refine hr ω2 ρ μ2 H2 y y2 v' vy2 _ _ r2.m (Rep.mono le2 _ z3) ry2 h2 fun ω3 z vz H3 le3 r3 rz h3 => ?_
        split at h3
        · rename_i fs' hi'
          obtain ⟨n2, a2, dx2, gs2, f1, f2, f0, f3, f4, f5⟩ := r3.icell (d := .ref n) (v := .ref a) ⟨a, le3.at (le2.at e0), rfl⟩ hi'
          cases f1
          have ea : a = a2 := by
            have := le3.at (le2.at e0)
            rw [this] at f0
            exact Option.some.inj f0
          subst ea
          exact ⟨dx2, gs2, f3, by rw [f4.len]; exact h3.1, q1 ω3 ε2 _ σ _ (le1.trans (le2.trans le3)) ⟨f5 _ _ (f4.putF rz), r2.e.mono le3⟩ h3.2⟩
        · exact h3.elim
    · exact h1.elim
  · exact h1.elim
/-- a method that may be called -/
structure CalM (P : Program) (w : World) (K : PySem.W.Frag) (mg : Str → Option Value) (base : Heap) (T : List (Addr × Str)) (k : Nat) (C : Addr) (m : Str) (fs : FS) : Prop where
  ex : ∃ (f : Addr) (fd : FuncData) (ps : List Str), FnOk P w K mg base CX0 k f fd ps (spOf K T fs) ∧ Meth K C m f ∧ BA fd ps
theorem e_meth {pl : Sem Bool} (cm : CalM X.prog X.w X.K X.mg X.base T k C m fs) (hr : Room j X.A) (hk : k ≤ j) (c : Cls X.K C) (ho : EW T X o wo) (ha : AW T X (e :: es) wt)
    (hst : starEach (e :: es) X.env = (false, eval e X.env) :: starEach es X.env := by rfl) (hpl : (backTo pos (starEach es X.env)).any (·.1) = false := by rfl)
    (ht : eval (.Call (.Attribute o m apos) (e :: es) [] pos) X.env = (do
      let ov ← eval o X.env
      standAt apos.atName
      let (f, first) ← holding [ov] (getMethod ov m pl)
      callWith pos f first (backTo pos (starEach (e :: es) X.env)) (backToKw pos (keywordEach [] X.env))) := by rfl) :
    EW T X (.Call (.Attribute o m apos) (e :: es) [] pos) (wMeth C m fs wo wt) := by
  obtain ⟨f, fd, ps, F, hm, b⟩ := cm.ex
  refine PE.to (pe_meth (pl := pl) ho c hm F (hr.mono hk) (.all b) .nil pass0 ha hst hpl ht) fun σ H Q h => ?_
  obtain ⟨ω, ρ, ε, μ, k, r, h, q⟩ := h
  refine ⟨ω, ρ, ε, μ, _, r, h, fun ω1 ε1 μ1 d v H1 le1 r1 rd h1 => ?_⟩
  split at h1
  · rename_i gs hi
    obtain ⟨n, a, dx, hs, e1, e2, e0, e3, e4, _⟩ := r1.m.icell rd hi
    have hl : hs.lookup m = none := by
      rcases e4.look (f := m) with ⟨_, z⟩ | ⟨d', v', z1, z2, z3⟩
      · exact z
      · rw [h1.1] at z1; cases z1
    refine ⟨a, dx, hs, e2, e3, hl, ω1, ρ, ε1, μ1, _, r1, h1.2, fun ω2 ε2 μ2 ds vs H2 le2 r2 rl h2 => ?_⟩
    show spOf _ _ _ (v :: (vs ++ [])) _ _ _
    rw [List.append_nil]
    exact ⟨ω2, ρ, d :: ds, μ2, _, r2.m, RepL.cons (Rep.mono le2 _ rd) rl, h2, fun ω3 d3 μ3 v3 H3 le3 r3 rd3 h3 => q ω3 ε2 μ3 d3 v3 H3 (le1.trans (le2.trans le3)) ⟨r3, r2.e.mono le3⟩ rd3 h3⟩
  · exact h1.elim
theorem e_meth0 {pl : Sem Bool} (cm : CalM X.prog X.w X.K X.mg X.base T k C m fs) (hr : Room j X.A) (hk : k ≤ j) (c : Cls X.K C) (ho : EW T X o wo)
    (ht : eval (.Call (.Attribute o m apos) [] [] pos) X.env = (do
      let ov ← eval o X.env
      standAt apos.atName
      let (f, first) ← holding [ov] (getMethod ov m pl)
      callWith pos f first (backTo pos (starEach [] X.env)) (backToKw pos (keywordEach [] X.env))) := by rfl) :
    EW T X (.Call (.Attribute o m apos) [] [] pos) (wMeth C m fs wo wNil) := by
  obtain ⟨f, fd, ps, F, hm, b⟩ := cm.ex
  refine PE.to (pe_meth0 (pl := pl) ho c hm F (hr.mono hk) (.all b) .nil pass0 ht) fun σ H Q h => ?_
  obtain ⟨ω, ρ, ε, μ, k, r, h, q⟩ := h
  refine ⟨ω, ρ, ε, μ, _, r, h, fun ω1 ε1 μ1 d v H1 le1 r1 rd h1 => ?_⟩
  split at h1
  · rename_i gs hi
    obtain ⟨n, a, dx, hs, e1, e2, e0, e3, e4, _⟩ := r1.m.icell rd hi
    have hl : hs.lookup m = none := by
      rcases e4.look (f := m) with ⟨_, z⟩ | ⟨d', v', z1, z2, z3⟩
      · exact z
      · rw [h1.1] at z1; cases z1
    refine ⟨a, dx, hs, e2, e3, hl, ?_⟩
    exact ⟨ω1, ρ, [d], μ1, _, r1.m, RepL.cons rd RepL.nil, h1.2, fun ω3 d3 μ3 v3 H3 le3 r3 rd3 h3 => q ω3 ε1 μ3 d3 v3 H3 (le1.trans le3) ⟨r3, r1.e.mono le3⟩ rd3 h3⟩
  · exact h1.elim
/-- a class that may be made -/
structure CalI (P : Program) (w : World) (K : PySem.W.Frag) (mg : Str → Option Value) (base : Heap) (T : List (Addr × Str)) (k : Nat) (C : Addr) (x : Str) (fs : FS) : Prop where
  ex : ∃ (f : Addr) (fd : FuncData) (ps : List Str), FnOk P w K mg base CX0 k f fd ps (spOf K T fs) ∧ Mk K C f ∧ mg x = some (.ref C) ∧ BA fd ps
theorem e_make (cm : CalI X.prog X.w X.K X.mg X.base T k C x fs) (hr : Room j X.A) (hk : k + 1 ≤ j) (hg : Gl X x) (ha : AW T X (e :: es) wt)
    (hdb : (x == ("__debug__" : Str)) = false := by decide) (he : starEach (e :: es) X.env = (false, eval e X.env) :: starEach es X.env := by rfl) (hpl : (backTo pos (starEach es X.env)).any (·.1) = false := by rfl) :
    EW T X (.Call (.Name x p) (e :: es) [] pos) (wMake C fs wt) := by
  obtain ⟨f, fd, ps, F, M, hm, b⟩ := cm.ex
  refine PE.to (pe_make M F (hr.mono hk) hg hm (.all b) .nil pass0 ha hdb he hpl) fun σ H Q h => ?_
  obtain ⟨ω, ρ, ε, μ, k, r, h, q⟩ := h
  refine ⟨ω, ρ, ε, μ, _, r, h, fun ω1 ε1 μ1 ds vs H1 le1 r1 rl h1 => ?_⟩
  intro a dx ha hdx hne
  have hx0 : upd H1 dx (.own a) a = none := by rw [upd_ne hne.symm]; exact ha
  have r2 := r1.m.skip (o := .own a) hdx
  obtain ⟨le2, r3, e3⟩ := r2.alloc (o := .ins C dx []) (c := .ins C []) hx0 (by intro z; cases z) fun ω' le => ⟨dx, [], upd_same, .nil⟩
  show spOf _ _ _ (V.ref a :: (vs ++ [])) _ _ _
  rw [List.append_nil]
  refine ⟨_, ρ, .ref μ1.length :: ds, _, _, r3, RepL.cons ⟨a, e3, rfl⟩ (RepL.mono le2 _ rl), h1, fun ω3 d3 μ3 v3 H3 le3 r4 rd3 h3 => ?_⟩
  obtain ⟨e4, h3⟩ := h3
  subst e4
  exact ⟨rd3, q ω3 ε1 μ3 (.ref μ1.length) (.ref a) H3 (le1.trans (le2.trans le3)) ⟨r4, r1.e.mono (le2.trans le3)⟩ ⟨a, le3.at e3, rfl⟩ h3⟩
end
section
variable {P : Program} {w : World} {K : PySem.W.Frag} {mg : Str → Option Value} {base : Heap} {T : List (Addr × Str)}
/-- a method of the text, as the top leaves it -/
structure DefM (K : PySem.W.Frag) (C : Addr) (m qual : Str) (st : Stmt) (ps : List Str) : Prop where
  ex : ∃ (f : Addr) (fd : FuncData), Fun K m qual st f fd ∧ Meth K C m f ∧ BA fd ps
theorem cal_m {C : Addr} {m qual : Str} {st : Stmt} {N ps : List Str} {k : Nat} {fs : FS} (D : DefM K C m qual st ps) (S : FnScope N ps (defScope st)) (len : ∀ ds μ k, fs ds μ k → ds.length = ps.length)
    (hbody : ∀ (f : Addr) (cdv : Value) (A : Around) (outer : List Env) (s : Shared) (H : Hp) (E : XK), Room k (A.deeper (PyProof.Rows.envOfC qual (defScope st) s.heap.objs.size f cdv)) →
      ∃ t, BW T (cxOf CX0 P w K mg base N qual (defScope st) f cdv A outer s H E).nox (defBody st) t ∧ ∀ ds μ k, fs ds μ k → t { nx := fun _ μ' => gc μ k .non μ', rt := gc μ k } (startE N ds) μ) : CalM P w K mg base T (k + 1) C m fs := by
  obtain ⟨f, fd, F, hm, b⟩ := D.ex
  exact ⟨f, fd, ps, fn_w F S len fun cdv A outer s H E hr => hbody f cdv A outer s H E hr, hm, b⟩
/-- a class with its __init__ -/
structure DefI (K : PySem.W.Frag) (mg : Str → Option Value) (C : Addr) (x qual : Str) (st : Stmt) (ps : List Str) : Prop where
  ex : ∃ (f : Addr) (fd : FuncData), Fun K "__init__" qual st f fd ∧ Mk K C f ∧ mg x = some (.ref C) ∧ BA fd ps
theorem cal_i {C : Addr} {x qual : Str} {st : Stmt} {N ps : List Str} {k : Nat} {fs : FS} (D : DefI K mg C x qual st ps) (S : FnScope N ps (defScope st)) (len : ∀ ds μ k, fs ds μ k → ds.length = ps.length)
    (hbody : ∀ (f : Addr) (cdv : Value) (A : Around) (outer : List Env) (s : Shared) (H : Hp) (E : XK), Room k (A.deeper (PyProof.Rows.envOfC qual (defScope st) s.heap.objs.size f cdv)) →
      ∃ t, BW T (cxOf CX0 P w K mg base N qual (defScope st) f cdv A outer s H E).nox (defBody st) t ∧ ∀ ds μ k, fs ds μ k → t { nx := fun _ μ' => gc μ k .non μ', rt := gc μ k } (startE N ds) μ) : CalI P w K mg base T (k + 1) C x fs := by
  obtain ⟨f, fd, F, hm, hg, b⟩ := D.ex
  exact ⟨f, fd, ps, fn_w F S len fun cdv A outer s H E hr => hbody f cdv A outer s H E hr, hm, hg, b⟩
end
end WL
/-! The W layer: walks over lists that are cells and stay as they are. -/
namespace WL
open PySem PySem.Spec L2
/-- the items of a list, frozen or a cell, or of a tuple -/
def tview (μ : Mem) : D → Option (List D)
  | .tup ds => some ds
  | d => lview μ d
structure ItC (K : PySem.W.Frag) (T : List (Addr × Str)) (ω : Wd) (J : It) (items : List D) (cond : Mem → Prop) : Prop where
  go : ∀ ω' ρ μ H i, ω.le ω' → Rm K T ω' ρ μ H → cond μ → i < items.length → J.go i H
  stop : ∀ ω' ρ μ H, ω.le ω' → Rm K T ω' ρ μ H → cond μ → J.stop items.length H
  yld : ∀ ω' ρ μ H (i : Nat) (d : D) x H', ω.le ω' → Rm K T ω' ρ μ H → cond μ → items[i]? = some d → J.yld i H x H' → ∃ ω'', ω'.le ω'' ∧ Rm K T ω'' ρ μ H' ∧ Rep K ω'' d x
abbrev WAD := En → Mem → (List D → (Mem → Prop) → En → Mem → Prop) → Prop
def tIxC (K : PySem.W.Frag) (T : List (Addr × Str)) (w : WAD) : TI := fun σ H Q => ∃ ω ρ ε μ k, R K T ω ρ ε μ σ H ∧ w ε μ k ∧
  ∀ ω' ε' μ' items cond J H', ω.le ω' → R K T ω' ρ ε' μ' σ H' → ItC K T ω' J items cond → k items cond ε' μ' → Q J H'
def IXC (T : List (Addr × Str)) (X : Cx) (tg e : Expr) (w : WAD) : Prop := PI X tg e (tIxC X.K T w)
def wLcLD (cond : Mem → Prop) (g : WG) (t : WT) (we : WE) (εb : En) (kd : List D → Mem → Prop) : List D → List D → Mem → Prop
  | [], acc, μ => cond μ ∧ kd acc μ
  | d :: ds, acc, μ => cond μ ∧ g d εb μ fun ε2 μ2 => t ε2 μ2 fun b ε3 μ3 => ε3 = ε2 ∧ if b = true then we ε3 μ3 fun y ε4 μ4 => ε4 = ε2 ∧ acc.length < sizeLine ∧ wLcLD cond g t we εb kd ds (acc ++ [y]) μ4 else wLcLD cond g t we εb kd ds acc μ3
def wLcD (wi : WAD) (g : WG) (t : WT) (we : WE) (vs : List Nat) : WE := fun ε μ k => wi ε μ fun items cond ε1 μ1 => wLcLD cond g t we (wipeE ε1 vs) (fun acc μ2 => k (.lst acc) ε1 μ2) items [] μ1
def wLcDC (wi : WAD) (g : WG) (t : WT) (we : WE) (vs : List Nat) : WE := fun ε μ k => wi ε μ fun items cond ε1 μ1 => wLcLD cond g t we (wipeE ε1 vs) (fun acc μ2 => k (.ref μ2.length) ε1 (μ2 ++ [.lst acc])) items [] μ1
theorem lcD_head {cond : Mem → Prop} {g : WG} {t : WT} {we : WE} {εb : En} {kd : List D → Mem → Prop} {ds acc : List D} {μ : Mem} (h : wLcLD cond g t we εb kd ds acc μ) : cond μ := by
  cases ds with
  | nil => exact h.1
  | cons _ _ => exact h.1
section
variable {T : List (Addr × Str)} {X : Cx} {pos : Pos} {e elt tg iter : Expr} {ifs : List Expr} {scope : Scope} {own : List (Str × Nat)} {we : WE} {wt : WAD} {c : WT} {g : WG} {is : List Nat}
theorem lcD_of {K : PySem.W.Frag} {vs : List Nat} (hsub : ∀ j ∈ is, j ∈ vs) {σ : L2.St} {H : Hp} {Q : VK} {ω : Wd} {ρ : Hp} {ε : En} {μ : Mem} {kd : En → List D → Mem → Prop} (rr : R K T ω ρ ε μ σ H)
    (h : wt ε μ fun items cond ε1 μ1 => wLcLD cond g c we (wipeE ε1 vs) (kd ε1) items [] μ1)
    (q : ∀ ω' ε' μ' ds xs p H', ω.le ω' → R K T ω' ρ ε' μ' σ H' → H' p = some (.lst xs) → p ∉ ω'.φ → ω'.Hf p = none → ρ p = none → RepL K ω' ds xs → kd ε' ds μ' → Q (.ref p) H') :
    tLc (tIxC K T wt) (tGx K T is g) (tT K T c) (tE K T we) vs σ H Q := by
  refine ⟨ω, ρ, ε, μ, _, rr, h, fun ω1 ε1 μ1 items cond J H1 le1 r1 it h1 => ?_⟩
  intro Dp hD
  obtain ⟨n1, n2, n3⟩ := r1.m.new hD
  have eb := r1.e.wipe vs
  refine ⟨fun i m H' => m = items.length - i ∧ i ≤ items.length ∧ ∃ ω' μ' acc xs, ω1.le ω' ∧ Rm K T ω' (upd ρ Dp (.lst xs)) μ' H' ∧ RepL K ω' acc xs ∧ wLcLD cond g c we (wipeE ε1 vs) (kd ε1) (items.drop i) acc μ', ⟨_, rfl, Nat.zero_le _, ω1, μ1, [], [], Wd.le.refl _, ?_, RepL.nil, h1⟩, fun i m H' hW => ?_⟩
  · have r2 := r1.m.skip (o := .lst []) hD
    refine ⟨r2.same, r2.nd, r2.len, r2.cells, r2.tab, fun a o ha => ?_, fun b ps => ⟨(r2.nt b ps).1, nt_upd (r2.nt b ps).2⟩⟩
    by_cases he : a = Dp
    · subst he
      rw [upd_same] at ha ⊢
      exact ⟨ha, n1, n2⟩
    · rw [upd_ne he] at ha
      exact r2.fr a o ha
  obtain ⟨hm, hi', ω2, μ2, acc, xs, le2, r2, ra, h2⟩ := hW
  have hcond := lcD_head h2
  by_cases hl : i < items.length
  · refine .inr ⟨it.go ω2 _ μ2 H' i le2 r2 hcond hl, fun H3 => ∃ ω' μ' acc xs, ω1.le ω' ∧ Rm K T ω' (upd ρ Dp (.lst xs)) μ' H3 ∧ RepL K ω' acc xs ∧ wLcLD cond g c we (wipeE ε1 vs) (kd ε1) (items.drop (i + 1)) acc μ', fun H3 z => ⟨items.length - (i + 1), by omega, rfl, hl, z⟩, fun x H3 hy => ?_⟩
    obtain ⟨ω3, le3, r3, rx⟩ := it.yld ω2 _ μ2 H' i items[i] x H3 le2 r2 hcond (List.getElem?_eq_getElem hl) hy
    rw [List.drop_eq_getElem_cons hl] at h2
    refine ⟨ω3, _, wipeE ε1 vs, μ2, _, items[i], ⟨r3, eb.mono (le2.trans le3)⟩, rx, h2.2, fun ω4 ε4 μ4 σ4 H4 le4 r4 hl4 hs4 h4 => ?_⟩
    refine ⟨wipe_same hsub (hl4.trans (wipe_length _ _)) hs4, ω4, _, ε4, μ4, _, r4, h4, fun ω5 ε5 μ5 b H5 le5 r5 h5 => ?_⟩
    obtain ⟨e5, h5⟩ := h5
    have l5 := le2.trans (le3.trans (le4.trans le5))
    cases b with
    | true =>
      show tE K T we σ4 H5 _
      refine ⟨ω5, _, ε5, μ5, _, r5, h5, fun ω6 ε6 μ6 y vy H6 le6 r6 ry h6 => ?_⟩
      obtain ⟨e6, hz6, h6⟩ := h6
      have hD6 := (r6.m.fr Dp (.lst xs) upd_same)
      refine ⟨xs, hD6.1, by rw [ra.length]; exact hz6, ω6, μ6, acc ++ [y], xs ++ [vy], l5.trans le6, ?_, RepL.append (RepL.mono (le3.trans (le4.trans (le5.trans le6))) _ ra) (RepL.cons ry RepL.nil), h6⟩
      have nD : ∀ b o, H6 b = some o → b ≠ Dp → upd H6 Dp (.lst (xs ++ [vy])) b = some o := fun b o e hb => by rw [upd_ne hb]; exact e
      refine ⟨fun b o e => ?_, r6.m.nd, r6.m.len, fun n a c h7 h8 => ?_, tabs_upd r6.m.tab hD6.1 (fun ps z => by cases z) (fun φ z => by cases z), fun a o ha => ?_, fun b ps => ⟨(r6.m.nt b ps).1, nt_upd (nt_ne n3 (r6.m.nt b ps).2)⟩⟩
      · exact nD b o (r6.m.same _ _ e) (ne_of_none e hD6.2.2)
      · obtain ⟨c1, c2⟩ := r6.m.cells n a c h7 h8
        have na : a ≠ Dp := fun z => hD6.2.1 (z ▸ List.mem_of_getElem? h7)
        exact ⟨c1.mono (Wd.le.refl _) fun o q => nD a o q na, c2⟩
      · by_cases he : a = Dp
        · subst he
          rw [upd_same] at ha ⊢
          exact ⟨ha, hD6.2⟩
        · rw [upd_ne he] at ha
          have ha' : upd ρ Dp (.lst xs) a = some o := by rw [upd_ne he]; exact ha
          obtain ⟨f1, f2⟩ := r6.m.fr a o ha'
          exact ⟨nD a o f1 he, f2⟩
    | false =>
      show ∃ ω' μ' acc xs, _
      exact ⟨ω5, μ5, acc, xs, l5, r5.m, RepL.mono (le3.trans (le4.trans le5)) _ ra, h5⟩
  · have hie : i = items.length := by omega
    subst hie
    refine .inl ⟨it.stop ω2 _ μ2 H' le2 r2 hcond, ?_⟩
    rw [List.drop_eq_nil_of_le (by omega)] at h2
    obtain ⟨f1, f2, f3⟩ := r2.fr Dp (.lst xs) upd_same
    refine q ω2 ε1 μ2 acc xs Dp H' (le1.trans le2) ⟨⟨r2.same, r2.nd, r2.len, r2.cells, r2.tab, fun a o ha => ?_, fun b ps => ⟨(r2.nt b ps).1, nt_ne n3 (r2.nt b ps).2⟩⟩, r1.e.mono le2⟩ f1 f2 f3 n3 ra h2.2
    have na : a ≠ Dp := ne_of_none ha n3
    exact r2.fr a o (by rw [upd_ne na]; exact ha)
theorem e_lcD (hc : X.calm = true) (hN : X.N.Nodup) (hi : IXC T X tg iter wt) (ok : BlkOk X.N X.env.scope scope own)
    (hg : ∀ (s : Shared) (H : Hp) (C : Addr) (cl : List (Str × Addr)) (fp : List Addr), GX T (X.blk s H scope (compEnvC scope cl C X.env) fp) tg is g) (ht : ∀ (s : Shared) (H : Hp) (C : Addr) (cl : List (Str × Addr)) (fp : List Addr), TsW T (X.blk s H scope (compEnvC scope cl C X.env) fp) ifs c)
    (he : ∀ (s : Shared) (H : Hp) (C : Addr) (cl : List (Str × Addr)) (fp : List Addr), EW T (X.blk s H scope (compEnvC scope cl C X.env) fp) elt we) (hsub : ∀ j ∈ is, j ∈ own.map (·.2) := by decide) (hs : ∀ x, foldedSetIterable iter X.env x = pure x := by intro _; rfl) :
    EW T X (.ListComp elt [⟨tg, iter, ifs, 0⟩] scope pos) (wLcD wt g c we (own.map (·.2))) := by
  refine PE.to (pe_lc (g := tGx X.K T is g) (tt := tT X.K T c) (te := tE X.K T we) hc hN hi ok hg ht he hs) fun σ H Q h => ?_
  obtain ⟨ω, ρ, ε, μ, k, rr, h, q⟩ := h
  refine lcD_of hsub (kd := fun ε1 acc μ2 => k (.lst acc) ε1 μ2) rr h fun ω' ε' μ' ds xs p H' le r' h1 h2 h3 h4 rd hk => ?_
  obtain ⟨ω2, le2, r2, rp⟩ := late_lst r' h1 h2 h3 h4 rd
  exact q ω2 ε' μ' _ _ H' (le.trans le2) r2 rp hk
theorem e_lcDC (hc : X.calm = true) (hN : X.N.Nodup) (hi : IXC T X tg iter wt) (ok : BlkOk X.N X.env.scope scope own)
    (hg : ∀ (s : Shared) (H : Hp) (C : Addr) (cl : List (Str × Addr)) (fp : List Addr), GX T (X.blk s H scope (compEnvC scope cl C X.env) fp) tg is g) (ht : ∀ (s : Shared) (H : Hp) (C : Addr) (cl : List (Str × Addr)) (fp : List Addr), TsW T (X.blk s H scope (compEnvC scope cl C X.env) fp) ifs c)
    (he : ∀ (s : Shared) (H : Hp) (C : Addr) (cl : List (Str × Addr)) (fp : List Addr), EW T (X.blk s H scope (compEnvC scope cl C X.env) fp) elt we) (hsub : ∀ j ∈ is, j ∈ own.map (·.2) := by decide) (hs : ∀ x, foldedSetIterable iter X.env x = pure x := by intro _; rfl) :
    EW T X (.ListComp elt [⟨tg, iter, ifs, 0⟩] scope pos) (wLcDC wt g c we (own.map (·.2))) := by
  refine PE.to (pe_lc (g := tGx X.K T is g) (tt := tT X.K T c) (te := tE X.K T we) hc hN hi ok hg ht he hs) fun σ H Q h => ?_
  obtain ⟨ω, ρ, ε, μ, k, rr, h, q⟩ := h
  refine lcD_of hsub (kd := fun ε1 acc μ2 => k (.ref (List.length μ2)) ε1 (μ2 ++ [Cell.lst acc])) rr h fun ω' ε' μ' ds xs p H' le r' h1 h2 h3 h4 rd hk => ?_
  obtain ⟨ω2, le2, r2, rp⟩ := late_cell r' h1 h2 h3 h4 rd
  exact q ω2 ε' _ _ _ H' (le.trans le2) r2 rp hk
end
/-! ### what is walked -/
section
variable {K : PySem.W.Frag} {T : List (Addr × Str)}
/-- a sequence at hand: its items stand in H as long as the memory says so -/
theorem tview_sq {ω : Wd} {d : D} {v : V} {ρ : Hp} {μ : Mem} {H : Hp} {ds : List D} (r : Rm K T ω ρ μ H) (rd : Rep K ω d v) (h : tview μ d = some ds) :
    ∃ b a, v = .ref a ∧ (∃ xs, Sq b K H a xs) ∧ ∀ ω' ρ' μ' H', ω.le ω' → Rm K T ω' ρ' μ' H' → tview μ' d = some ds → ∃ xs, Sq b K H' a xs ∧ RepL K ω' ds xs := by
  by_cases ht : ∃ es, d = .tup es
  · obtain ⟨es, rfl⟩ := ht
    obtain ⟨a, xs, e, s, l⟩ := id rd
    have e1 : es = ds := Option.some.inj h
    subst e1
    exact ⟨true, a, e, ⟨xs, Same.seqT r.same s⟩, fun ω' ρ' μ' H' le r' _ => ⟨xs, Same.seqT r'.same (Same.seqT le.2 s), RepL.mono le _ l⟩⟩
  · have te : ∀ μ, tview μ d = lview μ d := fun μ => by
      cases d with
      | tup es => exact absurd ⟨es, rfl⟩ ht
      | _ => rfl
    rw [te] at h
    obtain ⟨a, xs, e, s, l⟩ := r.list rd h
    refine ⟨false, a, e, ⟨xs, s⟩, fun ω' ρ' μ' H' le r' h' => ?_⟩
    rw [te] at h'
    obtain ⟨a', xs', e', s', l'⟩ := r'.list (Rep.mono le _ rd) h'
    rw [e] at e'
    cases e'
    exact ⟨xs', s', l'⟩
def wISeqD (we : WE) : WAD := fun ε μ k => we ε μ fun d ε1 μ1 => match tview μ1 d with
  | some ds => k ds (fun μ' => tview μ' d = some ds) ε1 μ1
  | none => False
def wIZipD (wt : WA) : WAD := fun ε μ k => wt ε μ fun ds ε1 μ1 => match ds with
  | [d, d'] => (match tview μ1 d, tview μ1 d' with
    | some xs, some ys => k (List.zipWith (fun x y => .tup [x, y]) xs ys) (fun μ' => tview μ' d = some xs ∧ tview μ' d' = some ys) ε1 μ1
    | _, _ => False)
  | _ => False
variable {X : Cx} {tg e e2 : Expr} {we : WE} {wt : WA} {p pos tpos : Pos}
theorem i_seqD (he : EW T X e we) : IXC T X tg e (wISeqD we) := by
  refine ⟨fun pins s σ H R I h => (pi_seq (tg := tg) he).run pins s σ H R I ?_⟩
  obtain ⟨ω, ρ, ε, μ, k, r, h, q⟩ := h
  refine ⟨ω, ρ, ε, μ, _, r, h, fun ω1 ε1 μ1 d v H1 le1 r1 rd h1 => ?_⟩
  split at h1
  · rename_i ds hd
    obtain ⟨b, a, ev, ⟨xs, s⟩, hh⟩ := tview_sq r1.m rd hd
    cases b with
    | true =>
      refine .inr (.inl ⟨a, ev, ⟨xs, s⟩, q ω1 ε1 μ1 ds _ _ H1 le1 r1 ⟨fun ω' ρ μ H i le r hc hi => ?_, fun ω' ρ μ H le r hc => ?_, fun ω' ρ μ H i y x H' le r hc hi hy => ?_⟩ h1⟩)
      · obtain ⟨ys, s2, l2⟩ := hh ω' ρ μ H le r hc
        exact ⟨ys, ys[i]'(by rw [l2.length]; exact hi), s2, List.getElem?_eq_getElem _⟩
      · obtain ⟨ys, s2, l2⟩ := hh ω' ρ μ H le r hc
        exact ⟨ys, s2, by rw [l2.length]; exact Nat.le_refl _⟩
      · obtain ⟨ys, s2, l2⟩ := hh ω' ρ μ H le r hc
        obtain ⟨eH, hx⟩ := hy
        obtain ⟨z, z1, z2⟩ := l2.get hi
        have e2 := hx ys s2
        rw [z1] at e2
        have e3 : z = x := Option.some.inj e2
        subst e3 eH
        exact ⟨ω', Wd.le.refl _, r, z2⟩
    | false =>
      refine .inl ⟨a, ev, ⟨xs, s⟩, q ω1 ε1 μ1 ds _ _ H1 le1 r1 ⟨fun ω' ρ μ H i le r hc hi => ?_, fun ω' ρ μ H le r hc => ?_, fun ω' ρ μ H i y x H' le r hc hi hy => ?_⟩ h1⟩
      · obtain ⟨ys, s2, l2⟩ := hh ω' ρ μ H le r hc
        exact ⟨ys, ys[i]'(by rw [l2.length]; exact hi), s2, List.getElem?_eq_getElem _⟩
      · obtain ⟨ys, s2, l2⟩ := hh ω' ρ μ H le r hc
        exact ⟨ys, s2, by rw [l2.length]; exact Nat.le_refl _⟩
      · obtain ⟨ys, s2, l2⟩ := hh ω' ρ μ H le r hc
        obtain ⟨eH, hx⟩ := hy
        obtain ⟨z, z1, z2⟩ := l2.get hi
        have e2 := hx ys s2
        rw [z1] at e2
        have e3 : z = x := Option.some.inj e2
        subst e3 eH
        exact ⟨ω', Wd.le.refl _, r, z2⟩
  · exact h1.elim
theorem i_zipD {elts : List Expr} {kk : Nat} (hg : Gl X "zip") (hm : X.mg "zip" = none) (ha : AW T X [e, e2] wt)
    (hs : starEach [e, e2] X.env = (false, eval e X.env) :: starEach [e2] X.env := by rfl) (hpl : (backTo pos (starEach [e2] X.env)).any (·.1) = false := by rfl) : IXC T X (.Tuple elts kk tpos) (.Call (.Name "zip" p) [e, e2] [] pos) (wIZipD wt) := by
  refine ⟨fun pins s σ H R I h => (pi_zip2 hg hm ha hs hpl).run pins s σ H R I ?_⟩
  obtain ⟨ω, ρ, ε, μ, k, r, h, q⟩ := h
  refine ⟨ω, ρ, ε, μ, _, r, h, fun ω1 ε1 μ1 d v H1 le1 r1 rd h1 => ?_⟩
  split at h1
  · split at h1
    · rename_i xs ys hxs hys
      obtain ⟨w, w2, e, e1, e2⟩ := RepL.two rd
      obtain ⟨b1, a, f1, ⟨zs, s1⟩, hh1⟩ := tview_sq r1.m e1 hxs
      obtain ⟨b2, b, f2, ⟨zs2, s2⟩, hh2⟩ := tview_sq r1.m e2 hys
      subst e f1 f2
      refine ⟨b1, b2, a, b, zs, zs2, rfl, s1, s2, q ω1 ε1 μ1 _ _ _ H1 le1 r1 ⟨fun ω' ρ μ H i le r hc hi => ?_, fun ω' ρ μ H le r hc => ?_, fun ω' ρ μ H i y x H' le r hc hi hy => ?_⟩ h1⟩
      · obtain ⟨us, t1, l1⟩ := hh1 ω' ρ μ H le r hc.1
        obtain ⟨ws, t2, l2⟩ := hh2 ω' ρ μ H le r hc.2
        rw [List.length_zipWith] at hi
        exact ⟨us, ws, us[i]'(by rw [l1.length]; omega), ws[i]'(by rw [l2.length]; omega), t1, t2, List.getElem?_eq_getElem _, List.getElem?_eq_getElem _⟩
      · obtain ⟨us, t1, l1⟩ := hh1 ω' ρ μ H le r hc.1
        obtain ⟨ws, t2, l2⟩ := hh2 ω' ρ μ H le r hc.2
        exact ⟨us, ws, t1, t2, by rw [l1.length, List.length_zipWith]; omega, by rw [l2.length, List.length_zipWith]; omega, by rw [l1.length, l2.length, List.length_zipWith]; omega⟩
      · obtain ⟨us, t1, l1⟩ := hh1 ω' ρ μ H le r hc.1
        obtain ⟨ws, t2, l2⟩ := hh2 ω' ρ μ H le r hc.2
        obtain ⟨p, v, w, e, hp, eH, hx, hy⟩ := hy
        have hv := hx us t1
        have hw := hy ws t2
        obtain ⟨d1, g1, r1⟩ := l1.getV hv
        obtain ⟨d2, g2, r2⟩ := l2.getV hw
        rw [List.getElem?_zipWith, g1, g2] at hi
        have e3 : D.tup [d1, d2] = y := Option.some.inj hi
        subst e3 e eH
        exact pair_new r hp r1 r2
    · exact h1.elim
  · exact h1.elim
end
end WL
/-! The W layer: list(x) as a cell, two clauses in a comprehension, slices with a step, numbers in fields. -/
namespace WL
open PySem PySem.Spec L2
section
variable {T : List (Addr × Str)} {X : Cx} {e : Expr} {wt : WA} {p pos : Pos}
def wListC (wt : WA) : WE := fun ε μ k => wt ε μ fun ds ε1 μ1 => match ds with
  | [d] => (match tview μ1 d with
    | some xs => k (.ref μ1.length) ε1 (μ1 ++ [.lst xs])
    | none => False)
  | _ => False
theorem e_listC (hg : Gl X "list") (hm : X.mg "list" = none) (hv : bootBuiltins "list" = some (.type "list")) (ha : AW T X [e] wt) (he : starEach [e] X.env = [(false, eval e X.env)] := by rfl) : EW T X (.Call (.Name "list" p) [e] [] pos) (wListC wt) := by
  refine PE.to (pe_callTy call_list_of hg hm hv ha (by decide) (by decide) he rfl) fun σ H Q h => ?_
  obtain ⟨ω, ρ, ε, μ, k, r, h, q⟩ := h
  refine ⟨ω, ρ, ε, μ, _, r, h, fun ω1 ε1 μ1 ds vs H1 le1 r1 rd h1 => ?_⟩
  split at h1
  · split at h1
    · rename_i xs hx
      obtain ⟨v, e1, rd1⟩ := RepL.one rd
      obtain ⟨b, a, ev, ⟨zs, s⟩, hh⟩ := tview_sq r1.m rd1 hx
      obtain ⟨ys, s2, l2⟩ := hh ω1 ρ μ1 H1 (Wd.le.refl _) r1.m hx
      subst e1 ev
      refine ⟨a, ys, rfl, by cases b with | true => exact .inr s2 | false => exact .inl s2, fun l hl => ?_⟩
      obtain ⟨le2, r2, e2⟩ := r1.m.alloc (o := .lst ys) (c := .lst xs) hl (by intro z; cases z) fun ω' le => ⟨ys, upd_same, RepL.mono le _ l2⟩
      exact q _ ε1 _ (.ref μ1.length) _ _ (le1.trans le2) ⟨r2, r1.e.mono le2⟩ ⟨l, e2, rfl⟩ h1
    · exact h1.elim
  · exact h1.elim
end
section
variable {K : PySem.W.Frag} {T : List (Addr × Str)}
theorem ok_inadd : ROk K T rAdd (roI0 fun i j => .int (i + j)) := by
  intro ω ρ μ H x y vx vy k Q r rx ry h q
  unfold roI0 at h
  split at h
  · rename_i i j
    exact ⟨i, j, rx, ry, q ω _ _ H (Wd.le.refl _) r repI h⟩
  · exact h.elim
theorem ok_insub : ROk K T rSub (roI0 fun i j => .int (i - j)) := by
  intro ω ρ μ H x y vx vy k Q r rx ry h q
  unfold roI0 at h
  split at h
  · rename_i i j
    exact ⟨i, j, rx, ry, q ω _ _ H (Wd.le.refl _) r repI h⟩
  · exact h.elim
end
/-! ### [.. for a in x if t for b in y if u] -/
def wLcIn (g1 : WG) (t1 : WT) (we : WE) (εb : En) (kd : List D → Mem → Prop) : List D → List D → Mem → Prop
  | [], acc, μ => kd acc μ
  | d :: ds, acc, μ => g1 d εb μ fun ε2 μ2 => t1 ε2 μ2 fun b ε3 μ3 => ε3 = ε2 ∧ if b = true then we ε3 μ3 fun y ε4 μ4 => ε4 = ε2 ∧ acc.length < sizeLine ∧ wLcIn g1 t1 we εb kd ds (acc ++ [y]) μ4 else wLcIn g1 t1 we εb kd ds acc μ3
def wLcL2 (g : WG) (t : WT) (wi1 : WA) (g1 : WG) (t1 : WT) (we : WE) (vs1 : List Nat) (εb : En) (kd : List D → Mem → Prop) : List D → List D → Mem → Prop
  | [], acc, μ => kd acc μ
  | d :: ds, acc, μ => g d εb μ fun ε2 μ2 => t ε2 μ2 fun b ε3 μ3 => ε3 = ε2 ∧ if b = true then wi1 ε3 μ3 fun items ε4 μ4 => ε4 = ε2 ∧ wLcIn g1 t1 we (wipeE ε2 vs1) (fun acc μ5 => wLcL2 g t wi1 g1 t1 we vs1 εb kd ds acc μ5) items acc μ4 else wLcL2 g t wi1 g1 t1 we vs1 εb kd ds acc μ3
def wLc2 (wi : WA) (g : WG) (t : WT) (wi1 : WA) (g1 : WG) (t1 : WT) (we : WE) (vs vs1 : List Nat) : WE := fun ε μ k => wi ε μ fun items ε1 μ1 => wLcL2 g t wi1 g1 t1 we vs1 (wipeE ε1 vs) (fun acc μ2 => k (.lst acc) ε1 μ2) items [] μ1
section
variable {T : List (Addr × Str)} {X : Cx} {pos : Pos} {elt tg iter tg1 iter1 : Expr} {ifs ifs1 : List Expr} {scope : Scope} {own : List (Str × Nat)} {we : WE} {wt wt1 : WA} {c c1 : WT} {g g1 : WG} {is is1 vs1 : List Nat}
/-- the new list grows, known to no one -/
theorem rm_grow {K : PySem.W.Frag} {ω : Wd} {ρ : Hp} {μ : Mem} {H : Hp} {Dp : Addr} {xs ys : List V} (n3 : ρ Dp = none) (r : Rm K T ω (upd ρ Dp (.lst xs)) μ H) : H Dp = some (.lst xs) ∧ Rm K T ω (upd ρ Dp (.lst ys)) μ (upd H Dp (.lst ys)) := by
  have hD6 := r.fr Dp (.lst xs) upd_same
  refine ⟨hD6.1, ?_⟩
  have nD : ∀ b o, H b = some o → b ≠ Dp → upd H Dp (.lst ys) b = some o := fun b o e hb => by rw [upd_ne hb]; exact e
  refine ⟨fun b o e => ?_, r.nd, r.len, fun n a c h7 h8 => ?_, tabs_upd r.tab hD6.1 (fun ps z => by cases z) (fun φ z => by cases z), fun a o ha => ?_, fun b ps => ⟨(r.nt b ps).1, nt_upd (nt_ne n3 (r.nt b ps).2)⟩⟩
  · exact nD b o (r.same _ _ e) (ne_of_none e hD6.2.2)
  · obtain ⟨c1, c2⟩ := r.cells n a c h7 h8
    have na : a ≠ Dp := fun z => hD6.2.1 (z ▸ List.mem_of_getElem? h7)
    exact ⟨c1.mono (Wd.le.refl _) fun o q => nD a o q na, c2⟩
  · by_cases he : a = Dp
    · subst he
      rw [upd_same] at ha ⊢
      exact ⟨ha, hD6.2⟩
    · rw [upd_ne he] at ha
      have ha' : upd ρ Dp (.lst xs) a = some o := by rw [upd_ne he]; exact ha
      obtain ⟨f1, f2⟩ := r.fr a o ha'
      exact ⟨nD a o f1 he, f2⟩
theorem lc2_of {K : PySem.W.Frag} {vs : List Nat} (hsub : ∀ j ∈ is, j ∈ vs) (hsub1 : ∀ j ∈ is1, j ∈ vs1) {σ : L2.St} {H : Hp} {Q : VK} {ω : Wd} {ρ : Hp} {ε : En} {μ : Mem} {kd : En → List D → Mem → Prop} (rr : R K T ω ρ ε μ σ H)
    (h : wt ε μ fun items ε1 μ1 => wLcL2 g c wt1 g1 c1 we vs1 (wipeE ε1 vs) (kd ε1) items [] μ1)
    (q : ∀ ω' ε' μ' ds xs p H', ω.le ω' → R K T ω' ρ ε' μ' σ H' → H' p = some (.lst xs) → p ∉ ω'.φ → ω'.Hf p = none → ρ p = none → RepL K ω' ds xs → kd ε' ds μ' → Q (.ref p) H') :
    tLc2 (tIx K T wt) (tGx K T is g) (tT K T c) (tIx K T wt1) (tGx K T is1 g1) (tT K T c1) (tE K T we) vs vs1 σ H Q := by
  refine ⟨ω, ρ, ε, μ, _, rr, h, fun ω1 ε1 μ1 items J H1 le1 r1 it h1 => ?_⟩
  intro Dp hD
  obtain ⟨n1, n2, n3⟩ := r1.m.new hD
  have eb := r1.e.wipe vs
  refine ⟨fun i m H' => m = items.length - i ∧ i ≤ items.length ∧ ∃ ω' μ' acc xs, ω1.le ω' ∧ Rm K T ω' (upd ρ Dp (.lst xs)) μ' H' ∧ RepL K ω' acc xs ∧ wLcL2 g c wt1 g1 c1 we vs1 (wipeE ε1 vs) (kd ε1) (items.drop i) acc μ', ⟨_, rfl, Nat.zero_le _, ω1, μ1, [], [], Wd.le.refl _, ?_, RepL.nil, h1⟩, fun i m H' hW => ?_⟩
  · have r2 := r1.m.skip (o := .lst []) hD
    refine ⟨r2.same, r2.nd, r2.len, r2.cells, r2.tab, fun a o ha => ?_, fun b ps => ⟨(r2.nt b ps).1, nt_upd (r2.nt b ps).2⟩⟩
    by_cases he : a = Dp
    · subst he
      rw [upd_same] at ha ⊢
      exact ⟨ha, n1, n2⟩
    · rw [upd_ne he] at ha
      exact r2.fr a o ha
  obtain ⟨hm, hi', ω2, μ2, acc, xs, le2, r2, ra, h2⟩ := hW
  by_cases hl : i < items.length
  · refine .inr ⟨it.go ω2 _ μ2 H' i le2 r2 hl, fun H3 => ∃ ω' μ' acc xs, ω1.le ω' ∧ Rm K T ω' (upd ρ Dp (.lst xs)) μ' H3 ∧ RepL K ω' acc xs ∧ wLcL2 g c wt1 g1 c1 we vs1 (wipeE ε1 vs) (kd ε1) (items.drop (i + 1)) acc μ', fun H3 z => ⟨items.length - (i + 1), by omega, rfl, hl, z⟩, fun x H3 hy => ?_⟩
    obtain ⟨ω3, le3, r3, rx⟩ := it.yld ω2 _ μ2 H' i items[i] x H3 le2 r2 (List.getElem?_eq_getElem hl) hy
    rw [List.drop_eq_getElem_cons hl] at h2
    refine ⟨ω3, _, wipeE ε1 vs, μ2, _, items[i], ⟨r3, eb.mono (le2.trans le3)⟩, rx, h2, fun ω4 ε4 μ4 σ4 H4 le4 r4 hl4 hs4 h4 => ?_⟩
    refine ⟨wipe_same hsub (hl4.trans (wipe_length _ _)) hs4, ω4, _, ε4, μ4, _, r4, h4, fun ω5 ε5 μ5 b H5 le5 r5 h5 => ?_⟩
    obtain ⟨e5, h5⟩ := h5
    have l5 := le2.trans (le3.trans (le4.trans le5))
    cases b with
    | false =>
      show ∃ ω' μ' acc xs, _
      exact ⟨ω5, μ5, acc, xs, l5, r5.m, RepL.mono (le3.trans (le4.trans le5)) _ ra, h5⟩
    | true =>
      show tIx K T wt1 σ4 H5 _
      refine ⟨ω5, _, ε5, μ5, _, r5, h5, fun ω6 ε6 μ6 items1 J1 H6 le6 r6 it1 h6 => ?_⟩
      obtain ⟨e6, h6⟩ := h6
      have l6 := l5.trans le6
      have eb4 : EnvR K ω6 (wipeE ε4 vs1) (L2.wipe σ4 vs1) := (r4.e.wipe vs1).mono (le5.trans le6)
      refine ⟨fun j m1 H' => m1 = items1.length - j ∧ j ≤ items1.length ∧ ∃ ω' μ' acc xs, ω6.le ω' ∧ Rm K T ω' (upd ρ Dp (.lst xs)) μ' H' ∧ RepL K ω' acc xs ∧ wLcIn g1 c1 we (wipeE ε4 vs1) (fun acc μ5 => wLcL2 g c wt1 g1 c1 we vs1 (wipeE ε1 vs) (kd ε1) (items.drop (i + 1)) acc μ5) (items1.drop j) acc μ', ⟨_, rfl, Nat.zero_le _, ω6, μ6, acc, xs, Wd.le.refl _, r6.m, RepL.mono (le3.trans (le4.trans (le5.trans le6))) _ ra, h6⟩, fun j m1 H' hW => ?_⟩
      obtain ⟨hm1, hj', ω7, μ7, acc7, xs7, le7, r7, ra7, h7⟩ := hW
      by_cases hl1 : j < items1.length
      · refine .inr ⟨it1.go ω7 _ μ7 H' j le7 r7 hl1, fun H3 => ∃ ω' μ' acc xs, ω6.le ω' ∧ Rm K T ω' (upd ρ Dp (.lst xs)) μ' H3 ∧ RepL K ω' acc xs ∧ wLcIn g1 c1 we (wipeE ε4 vs1) (fun acc μ5 => wLcL2 g c wt1 g1 c1 we vs1 (wipeE ε1 vs) (kd ε1) (items.drop (i + 1)) acc μ5) (items1.drop (j + 1)) acc μ', fun H3 z => ⟨items1.length - (j + 1), by omega, rfl, hl1, z⟩, fun x1 H8 hy1 => ?_⟩
        obtain ⟨ω8, le8, r8, rx8⟩ := it1.yld ω7 _ μ7 H' j items1[j] x1 H8 le7 r7 (List.getElem?_eq_getElem hl1) hy1
        rw [List.drop_eq_getElem_cons hl1] at h7
        refine ⟨ω8, _, wipeE ε4 vs1, μ7, _, items1[j], ⟨r8, eb4.mono (le7.trans le8)⟩, rx8, h7, fun ω9 ε9 μ9 σ9 H9 le9 r9 hl9 hs9 h9 => ?_⟩
        refine ⟨wipe_same hsub1 (hl9.trans (wipe_length _ _)) hs9, ω9, _, ε9, μ9, _, r9, h9, fun ωa εa μa b Ha lea ra' ha => ?_⟩
        obtain ⟨ea, ha⟩ := ha
        have la := le7.trans (le8.trans (le9.trans lea))
        cases b with
        | false =>
          show ∃ ω' μ' acc xs, _
          exact ⟨ωa, μa, acc7, xs7, la, ra'.m, RepL.mono (le8.trans (le9.trans lea)) _ ra7, ha⟩
        | true =>
          show tE K T we σ9 Ha _
          refine ⟨ωa, _, εa, μa, _, ra', ha, fun ωb εb μb y vy Hb leb rb ry hb => ?_⟩
          obtain ⟨ebb, hz, hb⟩ := hb
          obtain ⟨hD6, rg⟩ := rm_grow (ys := xs7 ++ [vy]) n3 rb.m
          exact ⟨xs7, hD6, by rw [ra7.length]; exact hz, ωb, μb, acc7 ++ [y], xs7 ++ [vy], la.trans leb, rg, RepL.append (RepL.mono (le8.trans (le9.trans (lea.trans leb))) _ ra7) (RepL.cons ry RepL.nil), hb⟩
      · have hje : j = items1.length := by omega
        subst hje
        refine .inl ⟨it1.stop ω7 _ μ7 H' le7 r7, ?_⟩
        rw [List.drop_length] at h7
        exact ⟨ω7, μ7, acc7, xs7, l6.trans le7, r7, ra7, h7⟩
  · have hie : i = items.length := by omega
    subst hie
    refine .inl ⟨it.stop ω2 _ μ2 H' le2 r2, ?_⟩
    rw [List.drop_eq_nil_of_le (by omega)] at h2
    obtain ⟨f1, f2, f3⟩ := r2.fr Dp (.lst xs) upd_same
    refine q ω2 ε1 μ2 acc xs Dp H' (le1.trans le2) ⟨⟨r2.same, r2.nd, r2.len, r2.cells, r2.tab, fun a o ha => ?_, fun b ps => ⟨(r2.nt b ps).1, nt_ne n3 (r2.nt b ps).2⟩⟩, r1.e.mono le2⟩ f1 f2 f3 n3 ra h2
    have na : a ≠ Dp := ne_of_none ha n3
    exact r2.fr a o (by rw [upd_ne na]; exact ha)
theorem e_lc2 (vs1 : List Nat) (hc : X.calm = true) (hN : X.N.Nodup) (hi : IX T X tg iter wt) (ok : BlkOk X.N X.env.scope scope own)
    (hg : ∀ (s : Shared) (H : Hp) (C : Addr) (cl : List (Str × Addr)) (fp : List Addr), GX T (X.blk s H scope (compEnvC scope cl C X.env) fp) tg is g) (ht : ∀ (s : Shared) (H : Hp) (C : Addr) (cl : List (Str × Addr)) (fp : List Addr), TsW T (X.blk s H scope (compEnvC scope cl C X.env) fp) ifs c)
    (hi1 : ∀ (s : Shared) (H : Hp) (C : Addr) (cl : List (Str × Addr)) (fp : List Addr), IX T (X.blk s H scope (compEnvC scope cl C X.env) fp) tg1 iter1 wt1)
    (hg1 : ∀ (s : Shared) (H : Hp) (C : Addr) (cl : List (Str × Addr)) (fp : List Addr), GX T (X.blk s H scope (compEnvC scope cl C X.env) fp) tg1 is1 g1) (ht1 : ∀ (s : Shared) (H : Hp) (C : Addr) (cl : List (Str × Addr)) (fp : List Addr), TsW T (X.blk s H scope (compEnvC scope cl C X.env) fp) ifs1 c1)
    (he : ∀ (s : Shared) (H : Hp) (C : Addr) (cl : List (Str × Addr)) (fp : List Addr), EW T (X.blk s H scope (compEnvC scope cl C X.env) fp) elt we) (hv : ∀ i ∈ vs1, i ∈ own.map (·.2) := by decide) (hsub : ∀ j ∈ is, j ∈ own.map (·.2) := by decide) (hsub1 : ∀ j ∈ is1, j ∈ vs1 := by decide)
    (hs : ∀ x, foldedSetIterable iter X.env x = pure x := by intro _; rfl) (hs1 : ∀ env x, foldedSetIterable iter1 env x = pure x := by intro _ _; rfl) :
    EW T X (.ListComp elt [⟨tg, iter, ifs, 0⟩, ⟨tg1, iter1, ifs1, 0⟩] scope pos) (wLc2 wt g c wt1 g1 c1 we (own.map (·.2)) vs1) := by
  refine PE.to (pe_lc2 (wi := tIx X.K T wt) (wi1 := tIx X.K T wt1) (g := tGx X.K T is g) (tt := tT X.K T c) (g1 := tGx X.K T is1 g1) (tt1 := tT X.K T c1) (te := tE X.K T we) hc hN hi ok hv hg ht hi1 hg1 ht1 he hs hs1) fun σ H Q h => ?_
  obtain ⟨ω, ρ, ε, μ, k, rr, h, q⟩ := h
  refine lc2_of hsub hsub1 (kd := fun ε1 acc μ2 => k (.lst acc) ε1 μ2) rr h fun ω' ε' μ' ds xs p H' le r' h1 h2 h3 h4 rd hk => ?_
  obtain ⟨ω2, le2, r2, rp⟩ := late_lst r' h1 h2 h3 h4 rd
  exact q ω2 ε' μ' _ _ H' (le.trans le2) r2 rp hk
end
end WL
/-! The W layer: min of a list of data; slices of a list with a step. -/
namespace WL
open PySem PySem.Spec L2
section
variable {X : Cx}
def rMinD (K : PySem.W.Frag) : List V → Hp → VK → Prop := fun vs H Q => ∃ (a : Addr) (xs : List V) (d : PyData) (ds : List PyData), vs = [V.ref a] ∧ SqL K H a xs ∧ DpAll K H xs (d :: ds) ∧ PySem.W.AlikeAll (d :: ds) ∧ PyData.depthAll (d :: ds) ≤ 60 ∧
  ∀ (i : Nat) (v : V), xs[i]? = some v → (d :: ds)[i]? = some (PySem.W.minD d ds) → Q v H
theorem dpAll_at {K : PySem.W.Frag} {H : Hp} : ∀ {xs : List V} {ds : List PyData}, DpAll K H xs ds → ∀ {i : Nat} {v : V}, xs[i]? = some v → ∃ e, ds[i]? = some e ∧ Dp K H v e
  | _, _, .nil, i, v, h => by simp at h
  | _, _, .cons a b, 0, v, h => by
    have e := Option.some.inj h
    subst e
    exact ⟨_, rfl, a⟩
  | _, _, .cons a b, i + 1, v, h => dpAll_at b (by simpa using h)
theorem valsV : ∀ {xs : List V} {us : List Value} {i : Nat} {u : Value}, Vals xs us → us[i]? = some u → ∃ x, xs[i]? = some x ∧ RelV x u
  | _, _, _, _, .nil, e => by simp at e
  | _, _, 0, _, .cons r _, e => by simp at e; subst e; exact ⟨_, rfl, r⟩
  | _, _, i + 1, u, .cons _ t, e => by
    obtain ⟨x, h1, h2⟩ := valsV (i := i) (u := u) t (by simpa using e)
    exact ⟨x, by simpa using h1, h2⟩
theorem cr_minD (hc : X.calm = true) (hu : X.A.units + 64 < cLine) : CallR X (.builtin "min") (rMinD X.K) := by
  intro pins s σ H vs us Q I r h
  obtain ⟨a, xs, d, ds, rfl, hs, hd, hal, hdep, q⟩ := h
  obtain ⟨its, rv, hl, _⟩ := I.list hs
  rw [Vals.ref1 r]
  obtain ⟨as, hr⟩ := Dp.readsAll I (d :: ds) xs its hd rv
  refine PySem.W.min_list_data (I.ok.hd hc) hl.isList (by simpa using hr) hal (by omega) fun i v h' tk bs hi hm hk => ?_
  have hi : its[i]? = some v := by simpa using hi
  obtain ⟨x, hx, hrx⟩ := valsV rv hi
  obtain ⟨e, he, hde⟩ := dpAll_at hd hx
  obtain ⟨cs, hre⟩ := Dp.reads I e x v hde hrx
  have := (PySem.Reads.unique (PyProof.Rows.Reads.keeps hk hre) _ _ hm).1
  rw [this] at he
  exact ⟨x, H, I.kept hk, hrx, q i x hx he⟩
end
section
variable {K : PySem.W.Frag} {T : List (Addr × Str)}
/-- min of a list of data: an item that is the least -/
def coMinD : CO := fun μ xs k => match xs with
  | [.lst (d :: ds)] => PyData.canLayAll0 (toPyL (d :: ds)) = true ∧ PySem.W.AlikeAll (toPyL (d :: ds)) ∧ PyData.depthAll (toPyL (d :: ds)) ≤ 60 ∧ ∀ (i : Nat) (y : D), (d :: ds)[i]? = some y → (toPyL (d :: ds))[i]? = some (PySem.W.minD (toPy d) (toPyL ds)) → k y
  | _ => False
theorem ok_minD : COk K T (rMinD K) coMinD := by
  intro ω ρ μ H xs vs k Q r rx h q
  unfold coMinD at h
  split at h
  · rename_i d ds
    obtain ⟨h1, h2, h3, h4⟩ := h
    obtain ⟨v, e, rd⟩ := RepL.one rx
    obtain ⟨a, ys, e1, s1, l1⟩ := id rd
    subst e e1
    refine ⟨a, ys, toPy d, toPyL ds, rfl, .inl (.inl (r.same _ _ s1)), dpL_of r.same _ l1 h1, h2, h3, fun i v hv hm => ?_⟩
    obtain ⟨y, hy, ry⟩ := l1.getV hv
    exact q ω y _ H (Wd.le.refl _) r ry (h4 i y hy hm)
  · exact h.elim
end
section
open PySem.Calls PyProof.Rows
open L2 (Inv)
variable {T : List (Addr × Str)} {X : Cx}
/-- the places of xs[::c] -/
def stepIx (n : Nat) (c : Int) : List Nat := let (a, b, d) := sliceBounds none none (some c) n; sliceRange a b d
def pickL {α : Type} (xs : List α) (c : Int) : List α := (stepIx xs.length c).filterMap (xs[·]?)
theorem RepL.picks {K : PySem.W.Frag} {ω : Wd} {ds : List D} {xs : List V} (l : RepL K ω ds xs) : ∀ js : List Nat, RepL K ω (js.filterMap (ds[·]?)) (js.filterMap (xs[·]?))
  | [] => rfl
  | j :: js => by
    have ih := RepL.picks l js
    rw [List.filterMap_cons, List.filterMap_cons]
    cases h : ds[j]? with
    | none =>
      have : xs[j]? = none := by
        rw [List.getElem?_eq_none_iff] at h ⊢
        rw [l.length]; exact h
      rw [this]
      exact ih
    | some d =>
      obtain ⟨v, h1, h2⟩ := l.get h
      rw [h1]
      exact RepL.cons h2 ih
theorem Vals.picks {xs : List V} {us : List Value} (l : Vals xs us) : ∀ js : List Nat, Vals (js.filterMap (xs[·]?)) (js.filterMap (us[·]?))
  | [] => .nil
  | j :: js => by
    have ih := Vals.picks l js
    rw [List.filterMap_cons, List.filterMap_cons]
    cases h : xs[j]? with
    | none =>
      have : us[j]? = none := by
        rw [List.getElem?_eq_none_iff] at h ⊢
        rw [← l.length]; exact h
      rw [this]
      exact ih
    | some d =>
      obtain ⟨v, h1, h2⟩ := l.get h
      rw [h1]
      exact .cons h2 ih
def wStepL (c : Int) (we : WE) : WE := fun ε μ k => we ε μ fun d ε1 μ1 => match lview μ1 d with
  | some ds => k (.lst (pickL ds c)) ε1 μ1
  | none => False
theorem e_stepL {e : Expr} {we : WE} {c : Int} {k : Nat} {p1 p3 pos : Pos} (hc : c ≠ 0) (he : EW T X e we) : EW T X (.Subscript e (.Slice none none (some (.Constant (.int c) k p1)) p3) pos) (wStepL c we) := by
  refine ⟨fun pins s σ H Q I h => ?_⟩
  obtain ⟨ω, ρ, ε, μ, kk, r, h, q⟩ := h
  refine PyProof.Rows.Subscript_ (thn (he.run pins s σ H (fun v H1 => ∃ ω1 ε1 μ1 d ds, ω.le ω1 ∧ R X.K T ω1 ρ ε1 μ1 σ H1 ∧ Rep X.K ω1 d v ∧ lview μ1 d = some ds ∧ kk (.lst (pickL ds c)) ε1 μ1) I ⟨ω, ρ, ε, μ, _, r, h, fun ω1 ε1 μ1 d v H1 le r1 rd h1 => ?_⟩) fun v s1 ⟨x, H1, I1, r1, q1⟩ => ?_)
  · split at h1
    · rename_i ds hd
      exact ⟨ω1, ε1, μ1, d, ds, le, r1, rd, hd, h1⟩
    · exact h1.elim
  obtain ⟨ω1, ε1, μ1, d, ds, le1, rr1, rd1, hd1, hk1⟩ := q1
  obtain ⟨a, xs, ex, hx, rl⟩ := rr1.m.list rd1 hd1
  subst ex
  cases r1
  have hst : PO X (some (.Constant (.int c) k p1)) (tPart (tC (.int c))) := po_some pe_int
  refine wpAny_Slice (thn (po_none.run pins s1 σ H1 (fun o H2 => o = none ∧ H2 = H1) I1 ⟨rfl, rfl⟩) fun vl s2 ⟨l, H2, I2, pl, el, e2⟩ => ?_)
  subst el e2
  refine thn (po_none.run pins s2 σ H2 (fun o H3 => o = none ∧ H3 = H2) I2 ⟨rfl, rfl⟩) fun vu s3 ⟨u, H3, I3, pu, eu, e3⟩ => ?_
  subst eu e3
  refine thn (hst.run pins s3 σ H3 (fun o H4 => o = some c ∧ H4 = H3) I3 ⟨c, rfl, rfl, rfl⟩) fun vs s4 ⟨o, H4, I4, ps, eo, e4⟩ => ?_
  subst eo e4
  have I5 : Inv X pins σ H4 { s4 with heap := s4.heap.push { cls := .type "slice", data := .fields #[vl, vu, vs] } } := I4.kept (t' := s4.toks) fun b ob q => Heap.get?_push_of_some _ q
  obtain ⟨its, r, ht, hz⟩ := I5.list hx
  have hlen := r.length
  show wpAny (model X.prog X.w) X.A (subscriptTail e (.Slice none none (some (.Constant (.int c) k p1)) p3) (.ref a) (.ref s4.heap.objs.size)) (EP X pins σ Q) X.xe { s4 with heap := s4.heap.push { cls := .type "slice", data := .fields #[vl, vu, vs] } }
  refine tail_any (ops := [.ref a, .ref s4.heap.objs.size]) ht.isList.typeIs (PySem.slot_list_getitem.lookup) ?_ (by with_unfolding_all rfl)
  refine wpAny_getItem_list_slice ht.isList (Heap.IsSliceOf.new _ vl vu vs) pl pu ps (by simpa using hc) ?_ (by rw [List.size_toArray]; omega)
  have hfr := I5.hok.fresh (Nat.le_refl _)
  have epick : slicePick its.toArray none none (some c) = ((stepIx its.length c).filterMap (its[·]?)).toArray := by
    unfold slicePick stepIx
    simp
  have hsz : ((stepIx its.length c).filterMap (its[·]?)).length ≤ sizeLine := by
    have := slicePick_size_le its.toArray none none (some c)
    rw [epick] at this
    simp at this
    omega
  have rv := Vals.picks r (stepIx its.length c)
  rw [epick]
  obtain ⟨le5, r5⟩ := rr1.m.froze (o := .lst ((stepIx its.length c).filterMap (xs[·]?))) hfr
  have rp := RepL.picks rl (stepIx its.length c)
  have hdl : its.length = ds.length := by rw [← hlen, rl.length]
  refine ⟨.ref _, _, I5.laid (t' := s4.toks) (o := .lst ((stepIx its.length c).filterMap (xs[·]?))) (fun b ob q => Heap.get?_push_of_some _ q) (Nat.le_refl _) ?_, rfl, q _ _ _ (.lst (pickL ds c)) _ _ (le1.trans le5) ⟨r5, rr1.e.mono le5⟩ ⟨_, _, rfl, upd_same, ?_⟩ hk1⟩
  · exact ⟨by rw [rv.length]; exact hsz, _, 0, rv, Heap.get?_push_size _ rfl⟩
  · unfold pickL
    rw [← hdl]
    exact RepL.mono le5 _ rp
theorem pickL_mem {α : Type} {xs : List α} {c : Int} {y : α} (h : y ∈ pickL xs c) : y ∈ xs := by
  unfold pickL at h
  obtain ⟨j, _, e⟩ := List.mem_filterMap.mp h
  exact List.mem_of_getElem? e
theorem pickL_map {α β : Type} (f : α → β) (xs : List α) (c : Int) : pickL (xs.map f) c = (pickL xs c).map f := by
  unfold pickL
  rw [List.length_map, List.map_filterMap]
  refine fm_congr fun j _ => ?_
  rw [List.getElem?_map]
end
end WL
namespace WL
open PySem PySem.Spec L2
section
variable {T : List (Addr × Str)} {X : Cx} {pos : Pos} {e elt tg iter : Expr} {ifs : List Expr} {scope : Scope} {own : List (Str × Nat)} {we : WE} {wt : WAD} {c : WT} {g : WG} {is : List Nat}
theorem s_setLcD (i : Nat) {y : Str} {py spos : Pos} (hc : X.calm = true) (hN : X.N.Nodup) (hi : IXC T X tg iter wt) (ok : BlkOk X.N X.env.scope scope own)
    (hg : ∀ (s : Shared) (H : Hp) (C : Addr) (cl : List (Str × Addr)) (fp : List Addr), GX T (X.blk s H scope (compEnvC scope cl C X.env) fp) tg is g) (ht : ∀ (s : Shared) (H : Hp) (C : Addr) (cl : List (Str × Addr)) (fp : List Addr), TsW T (X.blk s H scope (compEnvC scope cl C X.env) fp) ifs c)
    (he : ∀ (s : Shared) (H : Hp) (C : Addr) (cl : List (Str × Addr)) (fp : List Addr), EW T (X.blk s H scope (compEnvC scope cl C X.env) fp) elt we) (hy : X.N[i]? = some y := by rfl) (hyl : X.env.scope.names.lookup y = some .local := by rfl)
    (hsw : swapsWith (.ListComp elt [⟨tg, iter, ifs, 0⟩] scope pos) (some (.Name y py)) spos.line X.env = pure true := by exact sw_true rfl rfl rfl (by decide +kernel)) (hsub : ∀ j ∈ is, j ∈ own.map (·.2) := by decide) (hs : ∀ x, foldedSetIterable iter X.env x = pure x := by intro _; rfl) :
    SW T X (.Assign [.Name y py] (.ListComp elt [⟨tg, iter, ifs, 0⟩] scope pos) spos) (wSet i (wLcD wt g c we (own.map (·.2)))) := by
  refine PS.to (ps_setLc (g := tGx X.K T is g) (tt := tT X.K T c) (te := tE X.K T we) hc hN hy hyl hsw hi ok hg ht he hs) fun D σ H h => ?_
  obtain ⟨ω, ρ, ε, μ, k, rr, h, q1, q2, q3, q4⟩ := h
  refine lcD_of hsub (kd := fun ε1 acc μ2 => k.nx (ε1.set i (some (.lst acc))) μ2) rr h fun ω' ε' μ' ds xs p H' le r' h1 h2 h3 h4 rd hk => ?_
  obtain ⟨ω2, le2, r2, rp⟩ := late_lst r' h1 h2 h3 h4 rd
  exact q1 ω2 _ μ' _ H' (le.trans le2) ⟨r2.m, r2.e.set rp i⟩ hk
end
section
variable {T : List (Addr × Str)} {X : Cx} {pos : Pos} {elt tg iter tg1 iter1 : Expr} {ifs ifs1 : List Expr} {scope : Scope} {own : List (Str × Nat)} {we : WE} {wt wt1 : WA} {c c1 : WT} {g g1 : WG} {is is1 vs1 : List Nat}
theorem s_setLc2 (i : Nat) (vs1 : List Nat) {y : Str} {py spos : Pos} (hc : X.calm = true) (hN : X.N.Nodup) (hi : IX T X tg iter wt) (ok : BlkOk X.N X.env.scope scope own)
    (hg : ∀ (s : Shared) (H : Hp) (C : Addr) (cl : List (Str × Addr)) (fp : List Addr), GX T (X.blk s H scope (compEnvC scope cl C X.env) fp) tg is g) (ht : ∀ (s : Shared) (H : Hp) (C : Addr) (cl : List (Str × Addr)) (fp : List Addr), TsW T (X.blk s H scope (compEnvC scope cl C X.env) fp) ifs c)
    (hi1 : ∀ (s : Shared) (H : Hp) (C : Addr) (cl : List (Str × Addr)) (fp : List Addr), IX T (X.blk s H scope (compEnvC scope cl C X.env) fp) tg1 iter1 wt1)
    (hg1 : ∀ (s : Shared) (H : Hp) (C : Addr) (cl : List (Str × Addr)) (fp : List Addr), GX T (X.blk s H scope (compEnvC scope cl C X.env) fp) tg1 is1 g1) (ht1 : ∀ (s : Shared) (H : Hp) (C : Addr) (cl : List (Str × Addr)) (fp : List Addr), TsW T (X.blk s H scope (compEnvC scope cl C X.env) fp) ifs1 c1)
   (he : ∀ (s : Shared) (H : Hp) (C : Addr) (cl : List (Str × Addr)) (fp : List Addr), EW T (X.blk s H scope (compEnvC scope cl C X.env) fp) elt we) (hy : X.N[i]? = some y := by rfl) (hyl : X.env.scope.names.lookup y = some .local := by rfl) (hv : ∀ i ∈ vs1, i ∈ own.map (·.2) := by decide)
    (hsw : swapsWith (.ListComp elt [⟨tg, iter, ifs, 0⟩, ⟨tg1, iter1, ifs1, 0⟩] scope pos) (some (.Name y py)) spos.line X.env = pure true := by exact sw_true rfl rfl rfl (by decide +kernel)) (hsub : ∀ j ∈ is, j ∈ own.map (·.2) := by decide) (hsub1 : ∀ j ∈ is1, j ∈ vs1 := by decide)
    (hs : ∀ x, foldedSetIterable iter X.env x = pure x := by intro _; rfl) (hs1 : ∀ env x, foldedSetIterable iter1 env x = pure x := by intro _ _; rfl) :
    SW T X (.Assign [.Name y py] (.ListComp elt [⟨tg, iter, ifs, 0⟩, ⟨tg1, iter1, ifs1, 0⟩] scope pos) spos) (wSet i (wLc2 wt g c wt1 g1 c1 we (own.map (·.2)) vs1)) := by
  refine PS.to (ps_setLc2 (wi := tIx X.K T wt) (wi1 := tIx X.K T wt1) (g := tGx X.K T is g) (tt := tT X.K T c) (g1 := tGx X.K T is1 g1) (tt1 := tT X.K T c1) (te := tE X.K T we) hc hN hy hyl hsw hi ok hv hg ht hi1 hg1 ht1 he hs hs1) fun D σ H h => ?_
  obtain ⟨ω, ρ, ε, μ, k, rr, h, q1, q2, q3, q4⟩ := h
  refine lc2_of hsub hsub1 (kd := fun ε1 acc μ2 => k.nx (ε1.set i (some (.lst acc))) μ2) rr h fun ω' ε' μ' ds xs p H' le r' h1 h2 h3 h4 rd hk => ?_
  obtain ⟨ω2, le2, r2, rp⟩ := late_lst r' h1 h2 h3 h4 rd
  exact q1 ω2 _ μ' _ H' (le.trans le2) ⟨r2.m, r2.e.set rp i⟩ hk
end
end WL
/-! The W layer: reading a comprehension of two clauses; the least of tuples of numbers. -/
namespace WL
open PySem PySem.Spec L2
theorem lcIn_map {α : Type} {g : WG} {t : WT} {we : WE} {εb : En} {kd : List D → Mem → Prop} {μ : Mem} (h : α → D) (p : α → Bool) (f : α → D)
    : ∀ (l : List α) (acc : List D), (∀ a ∈ l, ∀ (acc : List D) (R : List D → Mem → Prop), acc.length < sizeLine → (if p a = true then R (acc ++ [f a]) μ else R acc μ) →
      g (h a) εb μ fun ε2 μ2 => t ε2 μ2 fun b ε3 μ3 => ε3 = ε2 ∧ if b = true then we ε3 μ3 fun y ε4 μ4 => ε4 = ε2 ∧ acc.length < sizeLine ∧ R (acc ++ [y]) μ4 else R acc μ3) →
    acc.length + l.length ≤ sizeLine → kd (acc ++ (l.filter p).map f) μ → wLcIn g t we εb kd (l.map h) acc μ
  | [], acc, _, _, hk => by simpa [wLcIn] using hk
  | a :: l, acc, hs, hlen, hk => by
    refine hs a (List.mem_cons_self ..) acc _ (by simp at hlen; omega) ?_
    by_cases hp : p a = true
    · rw [if_pos hp]
      refine lcIn_map h p f l _ (fun x hx => hs x (List.mem_cons_of_mem _ hx)) (by simp at hlen ⊢; omega) ?_
      simpa [List.filter_cons, hp] using hk
    · rw [if_neg hp]
      refine lcIn_map h p f l _ (fun x hx => hs x (List.mem_cons_of_mem _ hx)) (by simp at hlen ⊢; omega) ?_
      simpa [List.filter_cons, hp] using hk
theorem lc2_all {α : Type} {g : WG} {t : WT} {wi1 : WA} {g1 : WG} {t1 : WT} {we : WE} {vs1 : List Nat} {εb : En} {kd : List D → Mem → Prop} {μ : Mem} (h : α → D) (F : α → List D) (M : Nat)
    : ∀ (l : List α) (acc : List D), (∀ a ∈ l, ∀ (acc : List D) (R : List D → Mem → Prop), acc.length + M ≤ sizeLine → R (acc ++ F a) μ →
      g (h a) εb μ fun ε2 μ2 => t ε2 μ2 fun b ε3 μ3 => ε3 = ε2 ∧ if b = true then wi1 ε3 μ3 fun items ε4 μ4 => ε4 = ε2 ∧ wLcIn g1 t1 we (wipeE ε2 vs1) R items acc μ4 else R acc μ3) →
    (∀ a ∈ l, (F a).length ≤ M) → acc.length + l.length * M ≤ sizeLine → kd (acc ++ l.flatMap F) μ → wLcL2 g t wi1 g1 t1 we vs1 εb kd (l.map h) acc μ
  | [], acc, _, _, _, hk => by simpa [wLcL2] using hk
  | a :: l, acc, hs, hF, hlen, hk => by
    have hM : (a :: l).length * M = l.length * M + M := by rw [List.length_cons, Nat.succ_mul]
    have hFa := hF a (List.mem_cons_self ..)
    refine hs a (List.mem_cons_self ..) acc _ (by omega) ?_
    refine lc2_all h F M l _ (fun x hx => hs x (List.mem_cons_of_mem _ hx)) (fun x hx => hF x (List.mem_cons_of_mem _ hx)) (by rw [List.length_append]; omega) ?_
    simpa [List.flatMap_cons] using hk
/-- tuples of three numbers -/
def t3 (p : Int × Int × Int) : D := .tup [.int p.1, .int p.2.1, .int p.2.2]
def le3 (p q : Int × Int × Int) : Prop := p.1 < q.1 ∨ (p.1 = q.1 ∧ (p.2.1 < q.2.1 ∨ (p.2.1 = q.2.1 ∧ p.2.2 ≤ q.2.2)))
def tu3 (p : Int × Int × Int) : PySem.W.Tup Int := ⟨[p.1, p.2.1, p.2.2]⟩
theorem toPy_t3 (p : Int × Int × Int) : toPy (t3 p) = PySem.W.Datum.toD (tu3 p) := rfl
theorem toPyL_t3 : ∀ l : List (Int × Int × Int), toPyL (l.map t3) = (l.map tu3).map PySem.W.Datum.toD
  | [] => rfl
  | a :: l => by
    rw [List.map_cons, List.map_cons, List.map_cons]
    show toPy (t3 a) :: toPyL (l.map t3) = _
    rw [toPy_t3, toPyL_t3 l]
theorem tu3_inj {p q : Int × Int × Int} (h : tu3 p = tu3 q) : p = q := by
  obtain ⟨a, b, c⟩ := p
  obtain ⟨d, e, f⟩ := q
  have h := congrArg PySem.W.Tup.items h
  simp [tu3] at h
  simp [h]
theorem lt3 (p q : Int × Int × Int) : PySem.W.DatumOrd.lt (tu3 p) (tu3 q) = true ↔ ¬ le3 q p := by
  show PySem.W.listLt [p.1, p.2.1, p.2.2] [q.1, q.2.1, q.2.2] = true ↔ _
  simp only [PySem.W.listLt, le3]
  show (if p.1 = q.1 then (if p.2.1 = q.2.1 then (if p.2.2 = q.2.2 then false else decide (p.2.2 < q.2.2)) else decide (p.2.1 < q.2.1)) else decide (p.1 < q.1)) = true ↔ _
  split
  · split
    · split
      · simp; omega
      · simp; omega
    · simp; omega
  · simp; omega
theorem min3 : ∀ (l : List (Int × Int × Int)) (x : Int × Int × Int), ∃ m, m ∈ x :: l ∧ PySem.W.minOf (tu3 x) (l.map tu3) = tu3 m ∧ ∀ y ∈ x :: l, le3 m y
  | [], x => ⟨x, List.mem_cons_self .., rfl, fun y hy => by rw [List.mem_singleton.mp hy]; unfold le3; omega⟩
  | a :: l, x => by
    have e : PySem.W.minOf (tu3 x) ((a :: l).map tu3) = PySem.W.minOf (if PySem.W.DatumOrd.lt (tu3 a) (tu3 x) = true then tu3 a else tu3 x) (l.map tu3) := rfl
    rw [e]
    by_cases h : PySem.W.DatumOrd.lt (tu3 a) (tu3 x) = true
    · rw [if_pos h]
      obtain ⟨m, h1, h2, h3⟩ := min3 l a
      refine ⟨m, List.mem_cons_of_mem _ h1, h2, fun y hy => ?_⟩
      have h := (lt3 _ _).mp h
      rcases List.mem_cons.mp hy with q | q
      · have h4 := h3 a (List.mem_cons_self ..)
        subst q
        unfold le3 at *
        omega
      · exact h3 y q
    · rw [if_neg h]
      obtain ⟨m, h1, h2, h3⟩ := min3 l x
      have h : le3 x a := by
        have := mt (lt3 a x).mpr h
        exact Classical.not_not.mp this
      refine ⟨m, ?_, h2, fun y hy => ?_⟩
      · rcases List.mem_cons.mp h1 with q | q
        · rw [q]; exact List.mem_cons_self ..
        · exact List.mem_cons_of_mem _ (List.mem_cons_of_mem _ q)
      · rcases List.mem_cons.mp hy with q | q
        · rw [q]; exact h3 x (List.mem_cons_self ..)
        · rcases List.mem_cons.mp q with q | q
          · have h4 := h3 x (List.mem_cons_self ..)
            subst q
            unfold le3 at *
            omega
          · exact h3 y (List.mem_cons_of_mem _ q)
theorem can_t3 : ∀ l : List (Int × Int × Int), PyData.canLayAll0 (toPyL (l.map t3)) = true
  | [] => rfl
  | a :: l => by
    have := can_t3 l
    simp [toPyL, toPy, t3, PyData.canLayAll0, PyData.canLay0, this]
theorem dep_t3 : ∀ l : List (Int × Int × Int), PyData.depthAll (toPyL (l.map t3)) ≤ 1
  | [] => by decide
  | a :: l => by
    have := dep_t3 l
    simp [toPyL, toPy, t3, PyData.depthAll, PyData.depth]
    omega
theorem coMin3 {μ : Mem} {l : List (Int × Int × Int)} {k : D → Prop} (hl : l ≠ []) (hk : ∀ m ∈ l, (∀ y ∈ l, le3 m y) → k (t3 m)) : coMinD μ [.lst (l.map t3)] k := by
  cases l with
  | nil => exact absurd rfl hl
  | cons x l =>
    refine ⟨can_t3 (x :: l), ?_, Nat.le_trans (dep_t3 (x :: l)) (by decide), fun i y hy hm => ?_⟩
    · have := toPyL_t3 (x :: l)
      rw [List.map_cons (f := t3)] at this
      rw [this]
      exact PySem.W.alikeAll_datum _
    · obtain ⟨m, h1, h2, h3⟩ := min3 l x
      have e1 : toPy (t3 x) = PySem.W.Datum.toD (tu3 x) := rfl
      rw [e1, toPyL_t3 l, PySem.W.minD_map, h2] at hm
      have hy : ((x :: l).map t3)[i]? = some y := hy
      have hm : (toPyL ((x :: l).map t3))[i]? = some (PySem.W.Datum.toD (tu3 m)) := hm
      rw [toPyL_t3, List.map_map, List.getElem?_map] at hm
      rw [List.getElem?_map] at hy
      cases hq : (x :: l)[i]? with
      | none => rw [hq] at hy; cases hy
      | some q =>
        rw [hq] at hy hm
        have ey : t3 q = y := Option.some.inj hy
        have em : PySem.W.Datum.toD (tu3 q) = PySem.W.Datum.toD (tu3 m) := Option.some.inj hm
        have eq : q = m := by
          obtain ⟨a, b, c⟩ := q
          obtain ⟨d, e, f⟩ := m
          have em : PyData.tuple [.int a, .int b, .int c] = PyData.tuple [.int d, .int e, .int f] := em
          simp at em
          simp [em]
        rw [← ey, eq]
        exact hk m h1 h3
end WL
/-! The W layer: the heads of a class. -/
namespace WL
open PySem PySem.Spec L2
section
variable {K : PySem.W.Frag} {h : Heap} {mg : Str → Option Value} {x m qual : Str} {st : Stmt} {ps : List Str} {f C : Addr} {oc kV doc pm cdv ct : Value} {od an : Option Addr} {osl : Array (Option Value)}
theorem defm_mk (_X : K.In h) (a : PySem.W.findIn K (.ref C) m = some (some (.ref f))) (i : PySem.W.isFn K (.ref f) = true) (l : K.lookup f = some ⟨oc, od, .func (PySem.W.fnOf m qual (defArgs st) (defBody st) (defScope st) .none kV doc pm an cdv ct), osl⟩)
    (cc : PySem.W.codeIn K cdv qual = true) (k : PySem.W.keepIn K (.ref f) = true)
    (b : ∀ (kV doc pm : Value) (an : Option Addr) (cdv ct : Value) (us : List Value), us.length = ps.length → bindArgs (PySem.W.fnOf m qual (defArgs st) (defBody st) (defScope st) .none kV doc pm an cdv ct) ⟨us, []⟩ = pure (ps.zip us)) : DefM K C m qual st ps :=
  ⟨f, _, fun_mk l cc k, ⟨a, i, k⟩, b kV doc pm an cdv ct⟩
theorem defi_mk (X : K.In h) (G : h.Ns mainGlobals mg) (g : PySem.W.nsIn K mainGlobals x = some (some (.ref C))) (mk : PySem.W.makesIn K C = true) (kc : PySem.W.keepIn K (.ref C) = true)
    (a : PySem.W.findIn K (.ref C) "__init__" = some (some (.ref f))) (i : PySem.W.isFn K (.ref f) = true) (l : K.lookup f = some ⟨oc, od, .func (PySem.W.fnOf "__init__" qual (defArgs st) (defBody st) (defScope st) .none kV doc pm an cdv ct), osl⟩)
    (cc : PySem.W.codeIn K cdv qual = true) (k : PySem.W.keepIn K (.ref f) = true)
    (b : ∀ (kV doc pm : Value) (an : Option Addr) (cdv ct : Value) (us : List Value), us.length = ps.length → bindArgs (PySem.W.fnOf "__init__" qual (defArgs st) (defBody st) (defScope st) .none kV doc pm an cdv ct) ⟨us, []⟩ = pure (ps.zip us)) : DefI K mg C x qual st ps :=
  ⟨f, _, fun_mk l cc k, ⟨mk, a, i, kc⟩, PySem.W.mg_of X G g, b kV doc pm an cdv ct⟩
/-- what of a class with the attributes fs must be known -/
structure ClsW (K : PySem.W.Frag) (C : Addr) (fs : List Str) : Prop where
  cl : Cls K C
  na : ∀ f ∈ fs, NoAttr K C f
theorem clsw_mk {fs : List Str} (_X : K.In h) (pg : PySem.W.plainGet K C Str.empty = true) (hd : PySem.W.hasDictIn K C = true) (po : PySem.W.plainOver K C = true) (sa : PySem.W.findIn K (.ref C) "__setattr__" = some (some (.builtin "object.__setattr__")))
    (na : ∀ f ∈ fs, NoAttr K C f) : ClsW K C fs := ⟨⟨pg, hd, po, sa⟩, na⟩
end
end WL
namespace K86
open PySem PySem.Spec L2 WL
def topS (i : Nat) : Stmt := PySem.Challenge.pw_everyfolk_k86_checks_just_the_spanned_ro.main.body.getD i (.Pass ⟨0, 0, 0, 0⟩)
structure Zs (mg : Str → Option Value) : Prop where
  z_len : mg "len" = none
  z_zip : mg "zip" = none
  z_range : mg "range" = none
  z_enumerate : mg "enumerate" = none
  z_sorted : mg "sorted" = none
  z_abs : mg "abs" = none
  z_sum : mg "sum" = none
  z_all : mg "all" = none
  z_list : mg "list" = none
  z_tuple : mg "tuple" = none
  z_int : mg "int" = none
  z_isinstance : mg "isinstance" = none
  z_bool : mg "bool" = none
  z_str : mg "str" = none
  z_min : mg "min" = none
abbrev s_pivot_of : Stmt := topS 1
abbrev N_pivot_of : List Str := ["row", "place", "one"]
theorem sc_pivot_of : FnScope N_pivot_of ["row"] (defScope s_pivot_of) := ⟨rfl, rfl, rfl, by decide +kernel, rfl, by decide +kernel, by decide +kernel⟩
abbrev s_less : Stmt := topS 2
abbrev N_less : List Str := ["row", "factor", "other", "one", "its"]
theorem sc_less : FnScope N_less ["row", "factor", "other"] (defScope s_less) := ⟨rfl, rfl, rfl, by decide +kernel, rfl, by decide +kernel, by decide +kernel⟩
abbrev s_divided_down : Stmt := topS 3
abbrev N_divided_down : List Str := ["rows", "place", "live", "rest", "changed", "row"]
theorem sc_divided_down : FnScope N_divided_down ["rows", "place"] (defScope s_divided_down) := ⟨rfl, rfl, rfl, by decide +kernel, rfl, by decide +kernel, by decide +kernel⟩
abbrev s_echelon : Stmt := topS 4
abbrev N_echelon : List Str := ["rows", "width", "place", "found", "live", "own", "row", "one"]
theorem sc_echelon : FnScope N_echelon ["rows", "width"] (defScope s_echelon) := ⟨rfl, rfl, rfl, by decide +kernel, rfl, by decide +kernel, by decide +kernel⟩
abbrev s_basis_of : Stmt := topS 5
abbrev N_basis_of : List Str := ["rows", "row"]
theorem sc_basis_of : FnScope N_basis_of ["rows"] (defScope s_basis_of) := ⟨rfl, rfl, rfl, by decide +kernel, rfl, by decide +kernel, by decide +kernel⟩
abbrev s_is_spanned : Stmt := topS 6
abbrev N_is_spanned : List Str := ["basis", "row", "own", "place"]
theorem sc_is_spanned : FnScope N_is_spanned ["basis", "row"] (defScope s_is_spanned) := ⟨rfl, rfl, rfl, by decide +kernel, rfl, by decide +kernel, by decide +kernel⟩
abbrev s_keeps : Stmt := topS 7
abbrev N_keeps : List Str := ["check", "row", "total", "number", "one"]
theorem sc_keeps : FnScope N_keeps ["check", "row"] (defScope s_keeps) := ⟨rfl, rfl, rfl, by decide +kernel, rfl, by decide +kernel, by decide +kernel⟩
abbrev s_Turner___init__ : Stmt := inClass (topS 8) 0
abbrev N_Turner___init__ : List Str := ["self", "basis", "row", "at", "k"]
theorem sc_Turner___init__ : FnScope N_Turner___init__ ["self", "basis"] (defScope s_Turner___init__) := ⟨rfl, rfl, rfl, by decide +kernel, rfl, by decide +kernel, by decide +kernel⟩
abbrev s_Turner_tables : Stmt := inClass (topS 8) 1
abbrev N_Turner_tables : List Str := ["self"]
theorem sc_Turner_tables : FnScope N_Turner_tables ["self"] (defScope s_Turner_tables) := ⟨rfl, rfl, rfl, by decide +kernel, rfl, by decide +kernel, by decide +kernel⟩
abbrev s_Turner_least_place : Stmt := inClass (topS 8) 2
abbrev N_Turner_least_place : List Str := ["self", "at", "found", "row", "column"]
theorem sc_Turner_least_place : FnScope N_Turner_least_place ["self", "at"] (defScope s_Turner_least_place) := ⟨rfl, rfl, rfl, by decide +kernel, rfl, by decide +kernel, by decide +kernel⟩
abbrev s_Turner_bring : Stmt := inClass (topS 8) 3
abbrev N_Turner_bring : List Str := ["self", "at", "row", "column", "one"]
theorem sc_Turner_bring : FnScope N_Turner_bring ["self", "at", "row", "column"] (defScope s_Turner_bring) := ⟨rfl, rfl, rfl, by decide +kernel, rfl, by decide +kernel, by decide +kernel⟩
abbrev s_Turner_clear : Stmt := inClass (topS 8) 4
abbrev N_Turner_clear : List Str := ["self", "at", "pivot", "row", "column", "below", "factor", "one"]
theorem sc_Turner_clear : FnScope N_Turner_clear ["self", "at"] (defScope s_Turner_clear) := ⟨rfl, rfl, rfl, by decide +kernel, rfl, by decide +kernel, by decide +kernel⟩
abbrev s_Turner_turn : Stmt := inClass (topS 8) 5
abbrev N_Turner_turn : List Str := ["self", "at", "row", "column"]
theorem sc_Turner_turn : FnScope N_Turner_turn ["self"] (defScope s_Turner_turn) := ⟨rfl, rfl, rfl, by decide +kernel, rfl, by decide +kernel, by decide +kernel⟩
abbrev s_Turner_checks : Stmt := inClass (topS 8) 6
abbrev N_Turner_checks : List Str := ["self", "found", "column", "modulus", "numbers", "row"]
theorem sc_Turner_checks : FnScope N_Turner_checks ["self"] (defScope s_Turner_checks) := ⟨rfl, rfl, rfl, by decide +kernel, rfl, by decide +kernel, by decide +kernel⟩
abbrev s_checks_of : Stmt := topS 9
abbrev N_checks_of : List Str := ["basis", "turner"]
theorem sc_checks_of : FnScope N_checks_of ["basis"] (defScope s_checks_of) := ⟨rfl, rfl, rfl, by decide +kernel, rfl, by decide +kernel, by decide +kernel⟩
abbrev s__law_pot : Stmt := topS 11
abbrev N__law_pot : List Str := ["script", "shares", "cell"]
theorem sc__law_pot : FnScope N__law_pot ["script", "shares"] (defScope s__law_pot) := ⟨rfl, rfl, rfl, by decide +kernel, rfl, by decide +kernel, by decide +kernel⟩
abbrev s__law_draw : Stmt := topS 12
abbrev N__law_draw : List Str := ["pot", "many", "cells", "cell", "mixed"]
theorem sc__law_draw : FnScope N__law_draw ["pot", "many"] (defScope s__law_draw) := ⟨rfl, rfl, rfl, by decide +kernel, rfl, by decide +kernel, by decide +kernel⟩
abbrev s__law_less : Stmt := topS 13
abbrev N__law_less : List Str := ["one", "own", "k", "many", "i"]
theorem sc__law_less : FnScope N__law_less ["one", "own", "k"] (defScope s__law_less) := ⟨rfl, rfl, rfl, by decide +kernel, rfl, by decide +kernel, by decide +kernel⟩
abbrev s__law_basis : Stmt := topS 14
abbrev N__law_basis : List Str := ["rows", "first", "found", "k", "held", "width", "row", "own", "many", "one", "i"]
theorem sc__law_basis : FnScope N__law_basis ["rows"] (defScope s__law_basis) := ⟨rfl, rfl, rfl, by decide +kernel, rfl, by decide +kernel, by decide +kernel⟩
abbrev s__law_is_whole : Stmt := topS 15
abbrev N__law_is_whole : List Str := ["value"]
theorem sc__law_is_whole : FnScope N__law_is_whole ["value"] (defScope s__law_is_whole) := ⟨rfl, rfl, rfl, by decide +kernel, rfl, by decide +kernel, by decide +kernel⟩
abbrev s__law_is_check : Stmt := topS 16
abbrev N__law_is_check : List Str := ["value", "width", "one"]
theorem sc__law_is_check : FnScope N__law_is_check ["value", "width"] (defScope s__law_is_check) := ⟨rfl, rfl, rfl, by decide +kernel, rfl, by decide +kernel, by decide +kernel⟩
abbrev s__law_box : Stmt := topS 17
abbrev N__law_box : List Str := ["width", "found", "k", "longer", "row", "number"]
theorem sc__law_box : FnScope N__law_box ["width"] (defScope s__law_box) := ⟨rfl, rfl, rfl, by decide +kernel, rfl, by decide +kernel, by decide +kernel⟩
abbrev s__law_sum : Stmt := topS 18
abbrev N__law_sum : List Str := ["numbers", "rows", "width", "k", "at"]
theorem sc__law_sum : FnScope N__law_sum ["numbers", "rows", "width"] (defScope s__law_sum) := ⟨rfl, rfl, rfl, by decide +kernel, rfl, by decide +kernel, by decide +kernel⟩
abbrev s__law_spans : Stmt := topS 19
abbrev N__law_spans : List Str := ["basis", "row", "left", "own", "k", "one", "i"]
theorem sc__law_spans : FnScope N__law_spans ["basis", "row"] (defScope s__law_spans) := ⟨rfl, rfl, rfl, by decide +kernel, rfl, by decide +kernel, by decide +kernel⟩
abbrev s__law_keeps : Stmt := topS 20
abbrev N__law_keeps : List Str := ["check", "row", "total", "k"]
theorem sc__law_keeps : FnScope N__law_keeps ["check", "row"] (defScope s__law_keeps) := ⟨rfl, rfl, rfl, by decide +kernel, rfl, by decide +kernel, by decide +kernel⟩
abbrev s__law_same : Stmt := topS 21
abbrev N__law_same : List Str := ["got", "due", "k"]
theorem sc__law_same : FnScope N__law_same ["got", "due"] (defScope s__law_same) := ⟨rfl, rfl, rfl, by decide +kernel, rfl, by decide +kernel, by decide +kernel⟩
abbrev s_law : Stmt := topS 22
abbrev N_law : List Str := ["script", "pot", "turn", "width", "rows", "basis", "checks", "tried", "row", "due", "check", "one", "again", "k", "own"]
theorem sc_law : FnScope N_law ["script"] (defScope s_law) := ⟨rfl, rfl, rfl, by decide +kernel, rfl, by decide +kernel, by decide +kernel⟩
end K86
namespace K86
open PySem PySem.Spec L2 WL
/-! plain -/
abbrev seqR (d : D) (r : List Int) : Prop := seqOf d = some (r.map D.int)
def rowT (r : List Int) : D := .tup (r.map D.int)
theorem seqR_L (r : List Int) : seqR (rowL r) r := rfl
theorem seqR_T (r : List Int) : seqR (rowT r) r := rfl
def lessL (r : List Int) (f : Int) (o : List Int) : List Int := List.zipWith (fun a b => a - f * b) r o
def pv : List Int → Nat
  | [] => 0
  | x :: r => if x = 0 then pv r + 1 else 0
theorem pv_le : ∀ r, pv r ≤ r.length
  | [] => Nat.le_refl _
  | x :: r => by
    unfold pv
    have := pv_le r
    split
    · simp; exact this
    · simp
theorem pv_at : ∀ {r : List Int} {a : Nat}, a < r.length → (∀ j, j < a → r.getD j 0 = 0) → r.getD a 0 ≠ 0 → pv r = a
  | [], a, h, _, _ => by simp at h
  | x :: r, 0, h, h1, h2 => by
    have : x ≠ 0 := by simpa using h2
    simp [pv, this]
  | x :: r, a + 1, h, h1, h2 => by
    have hx : x = 0 := by simpa using h1 0 (by omega)
    have := pv_at (r := r) (a := a) (by simpa using h) (fun j hj => by simpa using h1 (j + 1) (by omega)) (by simpa using h2)
    simp [pv, hx, this]
theorem pv_none : ∀ {r : List Int}, (∀ j, j < r.length → r.getD j 0 = 0) → pv r = r.length
  | [], _ => rfl
  | x :: r, h => by
    have hx : x = 0 := by simpa using h 0 (by simp)
    have := pv_none (r := r) fun j hj => by simpa using h (j + 1) (by simpa using hj)
    simp [pv, hx, this]
def quo (r o : List Int) (p : Nat) : Int := (r.getD p 0).fdiv (o.getD p 0)
def red (r o : List Int) (p : Nat) : List Int := lessL r (quo r o p) o
theorem lessL_length {r o : List Int} {f : Int} (h : r.length = o.length) : (lessL r f o).length = r.length := by simp [lessL, h]
theorem lessL_range {r o : List Int} {f : Int} (h : r.length = o.length) : (List.range r.length).map (fun i => r.getD i 0 - f * o.getD i 0) = lessL r f o := by
  apply List.ext_getElem
  · simp [lessL, h]
  · intro i h1 h2
    simp at h1
    simp [lessL, h1, h ▸ h1]
section
variable {P : Program} {w : World} {K : PySem.W.Frag} {mg : Str → Option Value} {base : Heap} {T : List (Addr × Str)}
def fsLess : FS := fun ds μ k => ∃ dr dz f r o, ds = [dr, .int f, dz] ∧ seqR dr r ∧ seqR dz o ∧ (∀ x ∈ o, IntMulOk f x) ∧ r.length < 1000 ∧ k (rowL (lessL r f o)) μ
theorem c_less (Z : Zs mg) (Df : DefW K mg "less" s_less ["row", "factor", "other"]) : CalW P w K mg base T 1 "less" fsLess := by
  refine cal_w Df sc_less (fun ds μ k h => ?_) (fun f cdv A outer s H E hr => ⟨_, (b_one (s_ret (e_lc rfl sc_less.nd (i_zip rfl Z.z_zip (a_cons (e_var 0) (a_cons (e_var 2) a_nil))) (blkOk_by (N := N_less) (sc := defScope s_less) (own := [("one", 3), ("its", 4)]) (by decide +kernel)) (fun _ _ _ _ _ => (g_tup (n := 2) rfl (gs_cons (g_name 3 sc_less.nd) (gs_cons (g_name 4 sc_less.nd) gs_nil)))) (fun _ _ _ _ _ => ts_nil) (fun _ _ _ _ _ => (e_op op_sub ok_sub (e_var 3) (e_op op_mulAll ok_mul (e_var 1) (e_var 4))))))), ?_⟩)
  · obtain ⟨dr, dz, f, r, o, rfl, _⟩ := h
    rfl
  · intro ds μ k h
    obtain ⟨dr, dz, f, r, o, rfl, h1, h2, h3, h4, h5⟩ := h
    simp only [wRet, wRetN, wLc, wLcC, wIZip, wIEnum, wISeq, wIRng1, wIRng2, wCons, wVar, wNil, wSeq, wSet, wAsg, wPar, wIf, wTest, wNext, wDrop, wOp, wUn, wCB, wC, wFor, wAug, wAugL, wAugS, wTup, wLst, wLstC, wNot, wAnd, wOr, wAndV, wOrV, wIfE, wCall, wYes, wgName, wgTup, wgsCons, wgsNil, wgSub, wM, wFrz, wDGet, wDIn, wDPut, wDNew, wRevT, wSl, wPart, wNoPart, wWhile, wSKey, wLcM, wLcD, wLcDC, wIZipD, wISeqD, wFld, wSFld, wMeth, wMake, wLc2, wStepL, wipeE, startE, N_less, List.map, List.length, List.cons_append, List.nil_append, List.append_nil, List.getElem?_cons_succ, List.getElem?_cons_zero, List.set_cons_succ, List.set_cons_zero, List.replicate, Nat.reduceAdd, Nat.reduceSub, if_true, if_false, Bool.false_eq_true, reduceIte, true_and, and_true]
    rw [h1, h2]
    show wLcL _ _ _ _ _ (List.zipWith _ _ _) _ _
    rw [zw_map]
    refine lc_all _ (fun p : Int × Int => D.int (p.1 - f * p.2)) _ (fun a ha acc R hacc hR => ?_) ?_ ?_
    · have hx := h3 a.2 (List.of_mem_zip ha).2
      simp only [wRet, wRetN, wLc, wLcC, wIZip, wIEnum, wISeq, wIRng1, wIRng2, wCons, wVar, wNil, wSeq, wSet, wAsg, wPar, wIf, wTest, wNext, wDrop, wOp, wUn, wCB, wC, wFor, wAug, wAugL, wAugS, wTup, wLst, wLstC, wNot, wAnd, wOr, wAndV, wOrV, wIfE, wCall, wYes, wgName, wgTup, wgsCons, wgsNil, wgSub, wM, wFrz, wDGet, wDIn, wDPut, wDNew, wRevT, wSl, wPart, wNoPart, wWhile, wSKey, wLcM, wLcD, wLcDC, wIZipD, wISeqD, wFld, wSFld, wMeth, wMake, wLc2, wStepL, wipeE, startE, List.map, List.length, List.cons_append, List.nil_append, List.append_nil, List.getElem?_cons_succ, List.getElem?_cons_zero, List.set_cons_succ, List.set_cons_zero, List.replicate, Nat.reduceAdd, Nat.reduceSub, if_true, if_false, Bool.false_eq_true, reduceIte, true_and, and_true, roSub, roMul, roI0]
      exact ⟨hx, hacc, hR⟩
    · simp only [List.length_zip, sizeLine]; omega
    · have e : List.map (fun p : Int × Int => D.int (p.1 - f * p.2)) (List.zip r o) = (lessL r f o).map D.int := by
        simp [lessL, List.zip, List.map_zipWith]
      rw [e]
      exact gc_id h5
def fsPivot : FS := fun ds μ k => ∃ d r, ds = [d] ∧ seqR d r ∧ r.length < 1000 ∧ k (.int (pv r : Nat)) μ
theorem c_pivot_of (Z : Zs mg) (Df : DefW K mg "pivot_of" s_pivot_of ["row"]) : CalW P w K mg base T 1 "pivot_of" fsPivot := by
  refine cal_w Df sc_pivot_of (fun ds μ k h => ?_) (fun f cdv A outer s H E hr => ⟨_, (b_cons (s_for PySem.PassesOwn.never rfl (i_enum rfl Z.z_enumerate (a_cons (e_var 0) a_nil)) (g_tup (n := 2) rfl (gs_cons (g_name 1 sc_pivot_of.nd) (gs_cons (g_name 2 sc_pivot_of.nd) gs_nil))) (b_one (s_if (t_cmp (op_neA hr.units) ok_ne (e_var 2) e_int) (b_one (s_ret (e_var 1))) b_nil)))
  (b_one (s_ret (e_callB cr_len ok_len rfl Z.z_len (by decide +kernel) (a_cons (e_var 0) a_nil))))), ?_⟩)
  · obtain ⟨d, r, rfl, _⟩ := h
    rfl
  · intro ds μ k h
    obtain ⟨d, r, rfl, h1, h2, h3⟩ := h
    simp only [wRet, wRetN, wLc, wLcC, wIZip, wIEnum, wISeq, wIRng1, wIRng2, wCons, wVar, wNil, wSeq, wSet, wAsg, wPar, wIf, wTest, wNext, wDrop, wOp, wUn, wCB, wC, wFor, wAug, wAugL, wAugS, wTup, wLst, wLstC, wNot, wAnd, wOr, wAndV, wOrV, wIfE, wCall, wYes, wgName, wgTup, wgsCons, wgsNil, wgSub, wM, wFrz, wDGet, wDIn, wDPut, wDNew, wRevT, wSl, wPart, wNoPart, wWhile, wSKey, wLcM, wLcD, wLcDC, wIZipD, wISeqD, wFld, wSFld, wMeth, wMake, wLc2, wStepL, wipeE, startE, N_pivot_of, List.map, List.length, List.cons_append, List.nil_append, List.append_nil, List.getElem?_cons_succ, List.getElem?_cons_zero, List.set_cons_succ, List.set_cons_zero, List.replicate, Nat.reduceAdd, Nat.reduceSub, if_true, if_false, Bool.false_eq_true, reduceIte, true_and, and_true]
    rw [h1]
    simp only
    refine for_range _ _ (fun i ε μ' => μ' = μ ∧ (∃ o1 o2, ε = [some d, o1, o2]) ∧ ∀ j, j < i → r.getD j 0 = 0) (fun i ε μ' k' hi hJ hk' => ?_) (fun ε μ' hJ => ?_) ⟨rfl, ⟨_, _, rfl⟩, fun j hj => absurd hj (by omega)⟩
    · obtain ⟨rfl, ⟨o1, o2, rfl⟩, hz⟩ := hJ
      have hi : i < r.length := by simpa using hi
      simp only [wRet, wRetN, wLc, wLcC, wIZip, wIEnum, wISeq, wIRng1, wIRng2, wCons, wVar, wNil, wSeq, wSet, wAsg, wPar, wIf, wTest, wNext, wDrop, wOp, wUn, wCB, wC, wFor, wAug, wAugL, wAugS, wTup, wLst, wLstC, wNot, wAnd, wOr, wAndV, wOrV, wIfE, wCall, wYes, wgName, wgTup, wgsCons, wgsNil, wgSub, wM, wFrz, wDGet, wDIn, wDPut, wDNew, wRevT, wSl, wPart, wNoPart, wWhile, wSKey, wLcM, wLcD, wLcDC, wIZipD, wISeqD, wFld, wSFld, wMeth, wMake, wLc2, wStepL, wipeE, startE, List.map, List.length, List.cons_append, List.nil_append, List.append_nil, List.getElem?_cons_succ, List.getElem?_cons_zero, List.set_cons_succ, List.set_cons_zero, List.replicate, Nat.reduceAdd, Nat.reduceSub, if_true, if_false, Bool.false_eq_true, reduceIte, true_and, and_true, List.getD_eq_getElem?_getD, List.getElem?_map, List.getElem?_eq_getElem hi, Option.map_some, Option.getD_some, roNe]
      by_cases hx : r[i] = 0
      · simp only [hx, decide_true, Bool.not_true, decide_eq_true_eq, not_true_eq_false, List.map, List.length, List.cons_append, List.nil_append, List.append_nil, List.getElem?_cons_succ, List.getElem?_cons_zero, List.set_cons_succ, List.set_cons_zero, List.replicate, Nat.reduceAdd, Nat.reduceSub, if_true, if_false, Bool.false_eq_true, reduceIte, true_and, and_true]
        refine hk' _ _ ⟨rfl, ⟨_, _, rfl⟩, fun j hj => ?_⟩
        rcases Nat.lt_succ_iff_lt_or_eq.mp hj with q | q
        · exact hz j q
        · subst q; simp [hi, hx]
      · simp only [hx, List.map, List.length, List.cons_append, List.nil_append, List.append_nil, List.getElem?_cons_succ, List.getElem?_cons_zero, List.set_cons_succ, List.set_cons_zero, List.replicate, Nat.reduceAdd, Nat.reduceSub, if_true, if_false, Bool.false_eq_true, reduceIte, true_and, and_true, decide_false, Bool.not_false, if_true]
        rw [pv_at hi hz (by simpa [hi] using hx)] at h3
        exact gc_id h3
    · obtain ⟨rfl, ⟨o1, o2, rfl⟩, hz⟩ := hJ
      simp only [wRet, wRetN, wLc, wLcC, wIZip, wIEnum, wISeq, wIRng1, wIRng2, wCons, wVar, wNil, wSeq, wSet, wAsg, wPar, wIf, wTest, wNext, wDrop, wOp, wUn, wCB, wC, wFor, wAug, wAugL, wAugS, wTup, wLst, wLstC, wNot, wAnd, wOr, wAndV, wOrV, wIfE, wCall, wYes, wgName, wgTup, wgsCons, wgsNil, wgSub, wM, wFrz, wDGet, wDIn, wDPut, wDNew, wRevT, wSl, wPart, wNoPart, wWhile, wSKey, wLcM, wLcD, wLcDC, wIZipD, wISeqD, wFld, wSFld, wMeth, wMake, wLc2, wStepL, wipeE, startE, List.map, List.length, List.cons_append, List.nil_append, List.append_nil, List.getElem?_cons_succ, List.getElem?_cons_zero, List.set_cons_succ, List.set_cons_zero, List.replicate, Nat.reduceAdd, Nat.reduceSub, if_true, if_false, Bool.false_eq_true, reduceIte, true_and, and_true]
      have hz : ∀ j, j < r.length → r.getD j 0 = 0 := by simpa using hz
      rw [pv_none hz] at h3
      rcases rowOf h1 with e | e | e <;> subst e <;> simp only [coLen, lview, List.length_map] <;> exact gc_id h3
end
end K86
namespace K86
open PySem PySem.Spec L2 WL
theorem len_row {μ : Mem} {d : D} {r : List Int} {k : D → Prop} (h : seqR d r) (hk : k (.int (r.length : Nat))) : coLen μ [d] k := by
  rcases rowOf h with e | e | e <;> subst e <;> simp only [coLen, lview, List.length_map] <;> exact hk
theorem len_seq {μ : Mem} {d : D} {ds : List D} {k : D → Prop} (h : seqOf d = some ds) (hk : k (.int (ds.length : Nat))) : coLen μ [d] k := by
  cases d with
  | lst es => have e : es = ds := Option.some.inj h; subst e; exact hk
  | fl es => have e : es = ds := Option.some.inj h; subst e; exact hk
  | tup es => have e : es = ds := Option.some.inj h; subst e; exact hk
  | _ => cases h
theorem rng_to (n : Nat) : ((n : Int)).toNat = n := rfl
def redOk (r o : List Int) (p : Nat) : Prop := CDivZ (r.getD p 0) (o.getD p 0) ∧ ∀ x ∈ o, IntMulOk (quo r o p) x
section
variable {P : Program} {w : World} {K : PySem.W.Frag} {mg : Str → Option Value} {base : Heap} {T : List (Addr × Str)}
def fsLawLess : FS := fun ds μ k => ∃ dr dz r o p, ds = [dr, dz, .int (p : Nat)] ∧ seqR dr r ∧ seqR dz o ∧ r.length = o.length ∧ p < r.length ∧ r.length < 1000 ∧ redOk r o p ∧ k (rowL (red r o p)) μ
theorem c__law_less (Z : Zs mg) (Df : DefW K mg "_law_less" s__law_less ["one", "own", "k"]) : CalW P w K mg base T 1 "_law_less" fsLawLess := by
  refine cal_w Df sc__law_less (fun ds μ k h => ?_) (fun f cdv A outer s H E hr => ⟨_, (b_cons (s_set 3 sc__law_less.nd (e_op op_fdivZ ok_fdiv (e_ix ix_seq ok_ix (e_var 0) (e_var 2)) (e_ix ix_seq ok_ix (e_var 1) (e_var 2))))
  (b_one (s_ret (e_lc rfl sc__law_less.nd (i_rng1 rfl Z.z_range (a_cons (e_callB cr_len ok_len rfl Z.z_len (by decide +kernel) (a_cons (e_var 0) a_nil)) a_nil)) (blkOk_by (N := N__law_less) (sc := defScope s__law_less) (own := [("i", 4)]) (by decide +kernel)) (fun _ _ _ _ _ => (g_name 4 sc__law_less.nd)) (fun _ _ _ _ _ => ts_nil) (fun _ _ _ _ _ => (e_op op_sub ok_sub (e_ix ix_seq ok_ix (e_var 0) (e_var 4)) (e_op op_mulAll ok_mul (e_var 3) (e_ix ix_seq ok_ix (e_var 1) (e_var 4))))))))), ?_⟩)
  · obtain ⟨dr, dz, r, o, p, rfl, _⟩ := h
    rfl
  · intro ds μ k h
    obtain ⟨dr, dz, r, o, p, rfl, h1, h2, hl, hp, hs, ⟨h3, h4⟩, h5⟩ := h
    simp only [wRet, wRetN, wLc, wLcC, wIZip, wIEnum, wISeq, wIRng1, wIRng2, wCons, wVar, wNil, wSeq, wSet, wAsg, wPar, wIf, wTest, wNext, wDrop, wOp, wUn, wCB, wC, wFor, wAug, wAugL, wAugS, wTup, wLst, wLstC, wNot, wAnd, wOr, wAndV, wOrV, wIfE, wCall, wYes, wgName, wgTup, wgsCons, wgsNil, wgSub, wM, wFrz, wDGet, wDIn, wDPut, wDNew, wRevT, wSl, wPart, wNoPart, wWhile, wSKey, wLcM, wLcD, wLcDC, wIZipD, wISeqD, wFld, wSFld, wMeth, wMake, wLc2, wStepL, wipeE, startE, N__law_less, List.map, List.length, List.cons_append, List.nil_append, List.append_nil, List.getElem?_cons_succ, List.getElem?_cons_zero, List.set_cons_succ, List.set_cons_zero, List.replicate, Nat.reduceAdd, Nat.reduceSub, if_true, if_false, Bool.false_eq_true, reduceIte, true_and, and_true]
    refine roIx_row h1 hp (roIx_row h2 (hl ▸ hp) ⟨h3, len_row h1 ⟨by omega, by omega, ?_⟩⟩)
    rw [rng_to]
    refine lc_all _ (fun i => D.int (r.getD i 0 - quo r o p * o.getD i 0)) _ (fun a ha acc R hacc hR => ?_) ?_ ?_
    · have ha : a < r.length := List.mem_range.mp ha
      simp only [wRet, wRetN, wLc, wLcC, wIZip, wIEnum, wISeq, wIRng1, wIRng2, wCons, wVar, wNil, wSeq, wSet, wAsg, wPar, wIf, wTest, wNext, wDrop, wOp, wUn, wCB, wC, wFor, wAug, wAugL, wAugS, wTup, wLst, wLstC, wNot, wAnd, wOr, wAndV, wOrV, wIfE, wCall, wYes, wgName, wgTup, wgsCons, wgsNil, wgSub, wM, wFrz, wDGet, wDIn, wDPut, wDNew, wRevT, wSl, wPart, wNoPart, wWhile, wSKey, wLcM, wLcD, wLcDC, wIZipD, wISeqD, wFld, wSFld, wMeth, wMake, wLc2, wStepL, wipeE, startE, List.map, List.length, List.cons_append, List.nil_append, List.append_nil, List.getElem?_cons_succ, List.getElem?_cons_zero, List.set_cons_succ, List.set_cons_zero, List.replicate, Nat.reduceAdd, Nat.reduceSub, if_true, if_false, Bool.false_eq_true, reduceIte, true_and, and_true, roSub, roMul, roI0]
      refine roIx_row h1 ha (roIx_row h2 (hl ▸ ha) ⟨h4 _ ?_, hacc, hR⟩)
      rw [List.getD_eq_getElem?_getD, List.getElem?_eq_getElem (hl ▸ ha)]
      exact List.getElem_mem _
    · simp only [List.length_range, sizeLine]; omega
    · have e := lessL_range (f := quo r o p) hl
      have e2 : (List.range r.length).map (fun i => D.int (r.getD i 0 - quo r o p * o.getD i 0)) = (red r o p).map D.int := by
        rw [red, ← e, List.map_map]
        rfl
      rw [e2]
      exact gc_id h5
/-- _law_sum -/
def sumL (ns : List Int) (rows : List (List Int)) (w : Nat) : List Int := (List.range w).map fun k => ((List.range rows.length).map fun i => ns.getD i 0 * (rows.getD i []).getD k 0).sum
def fsSum : FS := fun ds μ k => ∃ (ns : List Int) (rows : List (List Int)) (w : Nat), ds = [.lst (ns.map .int), .tup (rows.map rowT), .int (w : Nat)] ∧ rows.length < 1000 ∧ w < 1000 ∧ ns.length = rows.length ∧ (∀ r ∈ rows, r.length = w) ∧
  (∀ x ∈ ns, ∀ y : Int, IntMulOk x y) ∧ k (rowT (sumL ns rows w)) μ
theorem intsD_of (ns : List Int) : intsD (ns.map D.int) = some ns := intsD_map ns
theorem c__law_sum (Z : Zs mg) (Df : DefW K mg "_law_sum" s__law_sum ["numbers", "rows", "width"]) : CalW P w K mg base T 1 "_law_sum" fsSum := by
  refine cal_w Df sc__law_sum (fun ds μ k h => ?_) (fun f cdv A outer s H E hr => ⟨_, (b_one (s_ret (e_callTy call_tuple_of ok_tuple rfl Z.z_tuple (by decide +kernel) (a_cons (e_lc rfl sc__law_sum.nd (i_rng1 rfl Z.z_range (a_cons (e_var 2) a_nil)) (blkOk_by (N := N__law_sum) (sc := defScope s__law_sum) (own := [("k", 3)]) (by decide +kernel)) (fun _ _ _ _ _ => (g_name 3 sc__law_sum.nd)) (fun _ _ _ _ _ => ts_nil) (fun _ _ _ _ _ => (e_callB (cr_sum rfl) ok_sum rfl Z.z_sum (by decide +kernel) (a_cons (e_lc rfl sc__law_sum.nd (i_rng1 rfl Z.z_range (a_cons (e_callB cr_len ok_len rfl Z.z_len (by decide +kernel) (a_cons (e_var 1) a_nil)) a_nil)) (blkOk_by (own := [("at", 4)]) (by kernel_rfl)) (fun _ _ _ _ _ => (g_name 4 sc__law_sum.nd)) (fun _ _ _ _ _ => ts_nil) (fun _ _ _ _ _ => (e_op op_mulAll ok_mul (e_ix ix_seq ok_ix (e_var 0) (e_var 4)) (e_ix ix_seq ok_ix (e_ix ix_seq ok_ix (e_var 1) (e_var 4)) (e_var 3))))) a_nil)))) a_nil)))), ?_⟩)
  · obtain ⟨ns, rows, w, rfl, _⟩ := h
    rfl
  · intro ds μ k h
    obtain ⟨ns, rows, w, rfl, h1, h2, hl, h3, h4, h5⟩ := h
    simp only [wRet, wRetN, wLc, wLcC, wIZip, wIEnum, wISeq, wIRng1, wIRng2, wCons, wVar, wNil, wSeq, wSet, wAsg, wPar, wIf, wTest, wNext, wDrop, wOp, wUn, wCB, wC, wFor, wAug, wAugL, wAugS, wTup, wLst, wLstC, wNot, wAnd, wOr, wAndV, wOrV, wIfE, wCall, wYes, wgName, wgTup, wgsCons, wgsNil, wgSub, wM, wFrz, wDGet, wDIn, wDPut, wDNew, wRevT, wSl, wPart, wNoPart, wWhile, wSKey, wLcM, wLcD, wLcDC, wIZipD, wISeqD, wFld, wSFld, wMeth, wMake, wLc2, wStepL, wipeE, startE, N__law_sum, List.map, List.length, List.cons_append, List.nil_append, List.append_nil, List.getElem?_cons_succ, List.getElem?_cons_zero, List.set_cons_succ, List.set_cons_zero, List.replicate, Nat.reduceAdd, Nat.reduceSub, if_true, if_false, Bool.false_eq_true, reduceIte, true_and, and_true]
    refine ⟨by omega, by omega, ?_⟩
    rw [rng_to]
    refine lc_all _ (fun kk => D.int ((List.range rows.length).map fun i => ns.getD i 0 * (rows.getD i []).getD kk 0).sum) _ (fun a ha acc R hacc hR => ?_) ?_ ?_
    · have ha : a < w := List.mem_range.mp ha
      simp only [wRet, wRetN, wLc, wLcC, wIZip, wIEnum, wISeq, wIRng1, wIRng2, wCons, wVar, wNil, wSeq, wSet, wAsg, wPar, wIf, wTest, wNext, wDrop, wOp, wUn, wCB, wC, wFor, wAug, wAugL, wAugS, wTup, wLst, wLstC, wNot, wAnd, wOr, wAndV, wOrV, wIfE, wCall, wYes, wgName, wgTup, wgsCons, wgsNil, wgSub, wM, wFrz, wDGet, wDIn, wDPut, wDNew, wRevT, wSl, wPart, wNoPart, wWhile, wSKey, wLcM, wLcD, wLcDC, wIZipD, wISeqD, wFld, wSFld, wMeth, wMake, wLc2, wStepL, wipeE, startE, List.map, List.length, List.cons_append, List.nil_append, List.append_nil, List.getElem?_cons_succ, List.getElem?_cons_zero, List.set_cons_succ, List.set_cons_zero, List.replicate, Nat.reduceAdd, Nat.reduceSub, if_true, if_false, Bool.false_eq_true, reduceIte, true_and, and_true]
      refine len_seq (ds := rows.map rowT) rfl ⟨by rw [List.length_map]; omega, by rw [List.length_map]; omega, ?_⟩
      rw [rng_to]
      refine lc_all _ (fun i => D.int (ns.getD i 0 * (rows.getD i []).getD a 0)) _ (fun i hi acc R hacc hR => ?_) ?_ ?_
      · have hi : i < rows.length := by simpa using hi
        simp only [wRet, wRetN, wLc, wLcC, wIZip, wIEnum, wISeq, wIRng1, wIRng2, wCons, wVar, wNil, wSeq, wSet, wAsg, wPar, wIf, wTest, wNext, wDrop, wOp, wUn, wCB, wC, wFor, wAug, wAugL, wAugS, wTup, wLst, wLstC, wNot, wAnd, wOr, wAndV, wOrV, wIfE, wCall, wYes, wgName, wgTup, wgsCons, wgsNil, wgSub, wM, wFrz, wDGet, wDIn, wDPut, wDNew, wRevT, wSl, wPart, wNoPart, wWhile, wSKey, wLcM, wLcD, wLcDC, wIZipD, wISeqD, wFld, wSFld, wMeth, wMake, wLc2, wStepL, wipeE, startE, List.map, List.length, List.cons_append, List.nil_append, List.append_nil, List.getElem?_cons_succ, List.getElem?_cons_zero, List.set_cons_succ, List.set_cons_zero, List.replicate, Nat.reduceAdd, Nat.reduceSub, if_true, if_false, Bool.false_eq_true, reduceIte, true_and, and_true]
        refine roIx_row (r := ns) rfl (hl ▸ hi) (roIx_at (ds := rows.map rowT) (x := rowT rows[i]) rfl (by simp [hi]) (roIx_row (r := rows[i]) rfl (by rw [h3 _ (List.getElem_mem hi)]; exact ha) ?_))
        have e : rows.getD i [] = rows[i] := by simp [hi]
        rw [e] at hR
        exact ⟨h4 _ (by simp [hl, hi]) _, hacc, hR⟩
      · simp only [List.length_range, List.length_map, sizeLine]; omega
      · have e : listArg μ [D.lst ((List.range rows.length).map fun i => D.int (ns.getD i 0 * (rows.getD i []).getD a 0))] = some (((List.range rows.length).map fun i => ns.getD i 0 * (rows.getD i []).getD a 0).map D.int) := by
          simp only [listArg, lview, List.map_map]
          rfl
        simp only [coSum, List.length_map]
        rw [e]
        simp only [Option.bind, intsD_of]
        exact ⟨hacc, hR⟩
    · simp only [List.length_range, sizeLine]; omega
    · have e : D.tup ((List.range w).map fun kk => D.int ((List.range rows.length).map fun i => ns.getD i 0 * (rows.getD i []).getD kk 0).sum) = rowT (sumL ns rows w) := by
        unfold rowT sumL
        rw [List.map_map]
        rfl
      simp only [coTuple, seqArg, lview]
      rw [e]
      exact gc_id h5
end
end K86
namespace K86
open PySem PySem.Spec L2 WL
def spB : List (List Int) → List Int → Bool
  | [], r => decide (pv r = r.length)
  | b :: B, r => if (red r b (pv b)).getD (pv b) 0 = 0 then spB B (red r b (pv b)) else false
def spOk (n : Nat) : List (List Int) → List Int → Prop
  | [], _ => True
  | b :: B, r => b.length = n ∧ pv b < n ∧ redOk r b (pv b) ∧ spOk n B (red r b (pv b))
theorem pv_zero : ∀ {r : List Int}, pv r = r.length → ∀ x ∈ r, x = 0
  | [], _, x, h => by simp at h
  | y :: r, h, x, hx => by
    unfold pv at h
    split at h
    · rename_i hy
      rcases List.mem_cons.mp hx with e | e
      · rw [e]; exact hy
      · exact pv_zero (r := r) (by simpa using h) x e
    · simp at h
theorem zero_pv {r : List Int} (h : ∀ x ∈ r, x = 0) : pv r = r.length := pv_none fun j hj => by
  rw [List.getD_eq_getElem?_getD, List.getElem?_eq_getElem hj]
  exact h _ (List.getElem_mem _)
theorem pv_ne : ∀ {r : List Int}, pv r < r.length → r.getD (pv r) 0 ≠ 0
  | [], h => by simp at h
  | y :: r, h => by
    unfold pv at h ⊢
    split
    · rename_i hy
      rw [if_pos hy] at h
      simpa using pv_ne (r := r) (by simpa using h)
    · rename_i hy
      simpa using hy
theorem pv_before : ∀ {r : List Int} {j : Nat}, j < pv r → r.getD j 0 = 0
  | [], j, h => by simp [pv] at h
  | y :: r, j, h => by
    unfold pv at h
    split at h
    · rename_i hy
      cases j with
      | zero => simpa using hy
      | succ j => simpa using pv_before (r := r) (j := j) (by omega)
    · omega
theorem red_length {r o : List Int} {p : Nat} (h : r.length = o.length) : (red r o p).length = r.length := lessL_length h
section
variable {P : Program} {w : World} {K : PySem.W.Frag} {mg : Str → Option Value} {base : Heap} {T : List (Addr × Str)}
def fsSpan : FS := fun ds μ k => ∃ (B : List (List Int)) (r : List Int) (n : Nat), ds = [.tup (B.map rowT), rowT r] ∧ r.length = n ∧ n < 1000 ∧ spOk n B r ∧ k (.bl (spB B r)) μ
theorem c_is_spanned (Z : Zs mg) (Df : DefW K mg "is_spanned" s_is_spanned ["basis", "row"]) (C_less : CalW P w K mg base T 1 "less" fsLess) (C_pivot_of : CalW P w K mg base T 1 "pivot_of" fsPivot) : CalW P w K mg base T 2 "is_spanned" fsSpan := by
  refine cal_w Df sc_is_spanned (fun ds μ k h => ?_) (fun f cdv A outer s H E hr => ⟨_, (b_cons (s_for PySem.PassesOwn.never rfl (i_seq (e_var 0)) (g_name 2 sc_is_spanned.nd) (b_cons (s_set 3 sc_is_spanned.nd (e_c C_pivot_of hr (by decide) rfl (a_cons (e_var 2) a_nil)))
  (b_cons (s_set 1 sc_is_spanned.nd (e_c C_less hr (by decide) rfl (a_cons (e_var 1) (a_cons (e_op op_fdivZ ok_fdiv (e_ix ix_seq ok_ix (e_var 1) (e_var 3)) (e_ix ix_seq ok_ix (e_var 2) (e_var 3))) (a_cons (e_var 2) a_nil)))))
  (b_one (s_if (t_cmp (op_neA hr.units) ok_ne (e_ix ix_seq ok_ix (e_var 1) (e_var 3)) e_int) (b_one (s_ret e_bl)) b_nil)))))
  (b_one (s_ret (e_cmp (op_eqA hr.units) ok_eq (e_c C_pivot_of hr (by decide) rfl (a_cons (e_var 1) a_nil)) (e_callB cr_len ok_len rfl Z.z_len (by decide +kernel) (a_cons (e_var 1) a_nil)))))), ?_⟩)
  · obtain ⟨B, r, n, rfl, _⟩ := h
    rfl
  · intro ds μ k h
    obtain ⟨B, r, n, rfl, h1, h2, h3, h4⟩ := h
    simp only [wRet, wRetN, wLc, wLcC, wIZip, wIEnum, wISeq, wIRng1, wIRng2, wCons, wVar, wNil, wSeq, wSet, wAsg, wPar, wIf, wTest, wNext, wDrop, wOp, wUn, wCB, wC, wFor, wAug, wAugL, wAugS, wTup, wLst, wLstC, wNot, wAnd, wOr, wAndV, wOrV, wIfE, wCall, wYes, wgName, wgTup, wgsCons, wgsNil, wgSub, wM, wFrz, wDGet, wDIn, wDPut, wDNew, wRevT, wSl, wPart, wNoPart, wWhile, wSKey, wLcM, wLcD, wLcDC, wIZipD, wISeqD, wFld, wSFld, wMeth, wMake, wLc2, wStepL, wipeE, startE, N_is_spanned, List.map, List.length, List.cons_append, List.nil_append, List.append_nil, List.getElem?_cons_succ, List.getElem?_cons_zero, List.set_cons_succ, List.set_cons_zero, List.replicate, Nat.reduceAdd, Nat.reduceSub, if_true, if_false, Bool.false_eq_true, reduceIte, true_and, and_true]
    refine for_inv rowT (fun l ε μ' => μ' = μ ∧ ∃ d r' o1 o2, seqR d r' ∧ r'.length = n ∧ ε = [some (.tup (B.map rowT)), some d, o1, o2] ∧ spOk n l r' ∧ spB B r = spB l r') (fun b l ε μ' k' hJ hk' => ?_) (fun ε μ' hJ => ?_) B _ _ ⟨rfl, rowT r, r, none, none, rfl, h1, rfl, h3, rfl⟩
    · obtain ⟨rfl, d, r', o1, o2, hd, hl, rfl, ⟨hb1, hb2, hb3, hb4⟩, hs⟩ := hJ
      simp only [wRet, wRetN, wLc, wLcC, wIZip, wIEnum, wISeq, wIRng1, wIRng2, wCons, wVar, wNil, wSeq, wSet, wAsg, wPar, wIf, wTest, wNext, wDrop, wOp, wUn, wCB, wC, wFor, wAug, wAugL, wAugS, wTup, wLst, wLstC, wNot, wAnd, wOr, wAndV, wOrV, wIfE, wCall, wYes, wgName, wgTup, wgsCons, wgsNil, wgSub, wM, wFrz, wDGet, wDIn, wDPut, wDNew, wRevT, wSl, wPart, wNoPart, wWhile, wSKey, wLcM, wLcD, wLcDC, wIZipD, wISeqD, wFld, wSFld, wMeth, wMake, wLc2, wStepL, wipeE, startE, List.map, List.length, List.cons_append, List.nil_append, List.append_nil, List.getElem?_cons_succ, List.getElem?_cons_zero, List.set_cons_succ, List.set_cons_zero, List.replicate, Nat.reduceAdd, Nat.reduceSub, if_true, if_false, Bool.false_eq_true, reduceIte, true_and, and_true]
      refine ⟨_, b, rfl, seqR_T b, by omega, ?_⟩
      simp only [List.map, List.length, List.cons_append, List.nil_append, List.append_nil, List.getElem?_cons_succ, List.getElem?_cons_zero, List.set_cons_succ, List.set_cons_zero, List.replicate, Nat.reduceAdd, Nat.reduceSub, if_true, if_false, Bool.false_eq_true, reduceIte, true_and, and_true]
      refine roIx_row hd (by omega) (roIx_row (seqR_T b) (by omega) ⟨hb3.1, ?_⟩)
      refine ⟨_, _, _, r', b, rfl, hd, seqR_T b, hb3.2, by omega, ?_⟩
      simp only [List.map, List.length, List.cons_append, List.nil_append, List.append_nil, List.getElem?_cons_succ, List.getElem?_cons_zero, List.set_cons_succ, List.set_cons_zero, List.replicate, Nat.reduceAdd, Nat.reduceSub, if_true, if_false, Bool.false_eq_true, reduceIte, true_and, and_true]
      have e0 : lessL r' ((r'.getD (pv b) 0).fdiv (b.getD (pv b) 0)) b = red r' b (pv b) := rfl
      rw [e0]
      have hlr : (red r' b (pv b)).length = n := by rw [red_length (by omega)]; exact hl
      refine roIx_row (seqR_L _) (by omega) ?_
      simp only [roNe, List.map, List.length, List.cons_append, List.nil_append, List.append_nil, List.getElem?_cons_succ, List.getElem?_cons_zero, List.set_cons_succ, List.set_cons_zero, List.replicate, Nat.reduceAdd, Nat.reduceSub, if_true, if_false, Bool.false_eq_true, reduceIte, true_and, and_true]
      simp only [spB] at hs
      by_cases hx : (red r' b (pv b)).getD (pv b) 0 = 0
      · rw [if_pos hx] at hs
        simp only [hx, decide_true, Bool.not_true, List.map, List.length, List.cons_append, List.nil_append, List.append_nil, List.getElem?_cons_succ, List.getElem?_cons_zero, List.set_cons_succ, List.set_cons_zero, List.replicate, Nat.reduceAdd, Nat.reduceSub, if_true, if_false, Bool.false_eq_true, reduceIte, true_and, and_true]
        exact hk' _ _ ⟨rfl, rowL _, _, _, _, seqR_L _, hlr, rfl, hb4, hs⟩
      · rw [if_neg hx] at hs
        simp only [hx, decide_false, Bool.not_false, List.map, List.length, List.cons_append, List.nil_append, List.append_nil, List.getElem?_cons_succ, List.getElem?_cons_zero, List.set_cons_succ, List.set_cons_zero, List.replicate, Nat.reduceAdd, Nat.reduceSub, if_true, if_false, Bool.false_eq_true, reduceIte, true_and, and_true]
        rw [hs] at h4
        exact gc_id h4
    · obtain ⟨rfl, d, r', o1, o2, hd, hl, rfl, _, hs⟩ := hJ
      simp only [wRet, wRetN, wLc, wLcC, wIZip, wIEnum, wISeq, wIRng1, wIRng2, wCons, wVar, wNil, wSeq, wSet, wAsg, wPar, wIf, wTest, wNext, wDrop, wOp, wUn, wCB, wC, wFor, wAug, wAugL, wAugS, wTup, wLst, wLstC, wNot, wAnd, wOr, wAndV, wOrV, wIfE, wCall, wYes, wgName, wgTup, wgsCons, wgsNil, wgSub, wM, wFrz, wDGet, wDIn, wDPut, wDNew, wRevT, wSl, wPart, wNoPart, wWhile, wSKey, wLcM, wLcD, wLcDC, wIZipD, wISeqD, wFld, wSFld, wMeth, wMake, wLc2, wStepL, wipeE, startE, List.map, List.length, List.cons_append, List.nil_append, List.append_nil, List.getElem?_cons_succ, List.getElem?_cons_zero, List.set_cons_succ, List.set_cons_zero, List.replicate, Nat.reduceAdd, Nat.reduceSub, if_true, if_false, Bool.false_eq_true, reduceIte, true_and, and_true]
      refine ⟨_, r', rfl, hd, by omega, len_row hd ?_⟩
      simp only [roEq]
      have e : spB [] r' = decide ((pv r' : Int) = (r'.length : Nat)) := by
        simp only [spB]
        congr 1
        apply propext
        constructor <;> intro h <;> omega
      rw [hs, e] at h4
      exact gc_id h4
theorem c__law_spans (Z : Zs mg) (Df : DefW K mg "_law_spans" s__law_spans ["basis", "row"]) (C__law_less : CalW P w K mg base T 1 "_law_less" fsLawLess) : CalW P w K mg base T 2 "_law_spans" fsSpan := by
  refine cal_w Df sc__law_spans (fun ds μ k h => ?_) (fun f cdv A outer s H E hr => ⟨_, (b_cons (s_set 2 sc__law_spans.nd (e_callTy call_list_of ok_list rfl Z.z_list (by decide +kernel) (a_cons (e_var 1) a_nil)))
  (b_cons (s_for PySem.PassesOwn.never rfl (i_seq (e_var 0)) (g_name 3 sc__law_spans.nd) (b_cons (s_set 4 sc__law_spans.nd (e_ix ix_seq ok_ix (e_lc rfl sc__law_spans.nd (i_rng1 rfl Z.z_range (a_cons (e_callB cr_len ok_len rfl Z.z_len (by decide +kernel) (a_cons (e_var 3) a_nil)) a_nil)) (blkOk_by (N := N__law_spans) (sc := defScope s__law_spans) (own := [("i", 6)]) (by decide +kernel)) (fun _ _ _ _ _ => (g_name 6 sc__law_spans.nd)) (fun _ _ _ _ _ => (ts_one (t_cmp (op_neA hr.units) ok_ne (e_ix ix_seq ok_ix (e_var 3) (e_var 6)) e_int))) (fun _ _ _ _ _ => (e_var 6))) e_int))
  (b_cons (s_set 2 sc__law_spans.nd (e_c C__law_less hr (by decide) rfl (a_cons (e_var 2) (a_cons (e_var 3) (a_cons (e_var 4) a_nil)))))
  (b_one (s_if (t_cmp (op_neA hr.units) ok_ne (e_ix ix_seq ok_ix (e_var 2) (e_var 4)) e_int) (b_one (s_ret e_bl)) b_nil)))))
  (b_one (s_ret (e_cmp (op_eqA hr.units) ok_eq (e_lc rfl sc__law_spans.nd (i_seq (e_var 2)) (blkOk_by (N := N__law_spans) (sc := defScope s__law_spans) (own := [("one", 5)]) (by decide +kernel)) (fun _ _ _ _ _ => (g_name 5 sc__law_spans.nd)) (fun _ _ _ _ _ => (ts_one (t_cmp (op_neA hr.units) ok_ne (e_var 5) e_int))) (fun _ _ _ _ _ => (e_var 5))) (e_lst a_nil)))))), ?_⟩)
  · obtain ⟨B, r, n, rfl, _⟩ := h
    rfl
  · intro ds μ k h
    obtain ⟨B, r, n, rfl, h1, h2, h3, h4⟩ := h
    simp only [wRet, wRetN, wLc, wLcC, wIZip, wIEnum, wISeq, wIRng1, wIRng2, wCons, wVar, wNil, wSeq, wSet, wAsg, wPar, wIf, wTest, wNext, wDrop, wOp, wUn, wCB, wC, wFor, wAug, wAugL, wAugS, wTup, wLst, wLstC, wNot, wAnd, wOr, wAndV, wOrV, wIfE, wCall, wYes, wgName, wgTup, wgsCons, wgsNil, wgSub, wM, wFrz, wDGet, wDIn, wDPut, wDNew, wRevT, wSl, wPart, wNoPart, wWhile, wSKey, wLcM, wLcD, wLcDC, wIZipD, wISeqD, wFld, wSFld, wMeth, wMake, wLc2, wStepL, wipeE, startE, N__law_spans, List.map, List.length, List.cons_append, List.nil_append, List.append_nil, List.getElem?_cons_succ, List.getElem?_cons_zero, List.set_cons_succ, List.set_cons_zero, List.replicate, Nat.reduceAdd, Nat.reduceSub, if_true, if_false, Bool.false_eq_true, reduceIte, true_and, and_true]
    have e0 : coList μ [rowT r] = fun k => k (rowL r) := rfl
    rw [e0]
    refine for_inv rowT (fun l ε μ' => μ' = μ ∧ ∃ r' d0 o1 o2 o3 o4, r'.length = n ∧ ε = [some (.tup (B.map rowT)), some d0, some (rowL r'), o1, o2, o3, o4] ∧ spOk n l r' ∧ spB B r = spB l r') (fun b l ε μ' k' hJ hk' => ?_) (fun ε μ' hJ => ?_) B _ _ ⟨rfl, r, _, none, none, none, none, h1, rfl, h3, rfl⟩
    · obtain ⟨rfl, r', d0, o1, o2, o3, o4, hl, rfl, ⟨hb1, hb2, hb3, hb4⟩, hs⟩ := hJ
      simp only [wRet, wRetN, wLc, wLcC, wIZip, wIEnum, wISeq, wIRng1, wIRng2, wCons, wVar, wNil, wSeq, wSet, wAsg, wPar, wIf, wTest, wNext, wDrop, wOp, wUn, wCB, wC, wFor, wAug, wAugL, wAugS, wTup, wLst, wLstC, wNot, wAnd, wOr, wAndV, wOrV, wIfE, wCall, wYes, wgName, wgTup, wgsCons, wgsNil, wgSub, wM, wFrz, wDGet, wDIn, wDPut, wDNew, wRevT, wSl, wPart, wNoPart, wWhile, wSKey, wLcM, wLcD, wLcDC, wIZipD, wISeqD, wFld, wSFld, wMeth, wMake, wLc2, wStepL, wipeE, startE, List.map, List.length, List.cons_append, List.nil_append, List.append_nil, List.getElem?_cons_succ, List.getElem?_cons_zero, List.set_cons_succ, List.set_cons_zero, List.replicate, Nat.reduceAdd, Nat.reduceSub, if_true, if_false, Bool.false_eq_true, reduceIte, true_and, and_true]
      refine len_row (seqR_T b) ⟨by omega, by omega, ?_⟩
      rw [rng_to]
      refine lc_map _ (fun i : Nat => decide (b.getD i 0 ≠ 0)) (fun i : Nat => D.int (i : Nat)) _ (fun i hi acc R hacc hR => ?_) ?_ ?_
      · have hi : i < b.length := List.mem_range.mp hi
        simp only [wRet, wRetN, wLc, wLcC, wIZip, wIEnum, wISeq, wIRng1, wIRng2, wCons, wVar, wNil, wSeq, wSet, wAsg, wPar, wIf, wTest, wNext, wDrop, wOp, wUn, wCB, wC, wFor, wAug, wAugL, wAugS, wTup, wLst, wLstC, wNot, wAnd, wOr, wAndV, wOrV, wIfE, wCall, wYes, wgName, wgTup, wgsCons, wgsNil, wgSub, wM, wFrz, wDGet, wDIn, wDPut, wDNew, wRevT, wSl, wPart, wNoPart, wWhile, wSKey, wLcM, wLcD, wLcDC, wIZipD, wISeqD, wFld, wSFld, wMeth, wMake, wLc2, wStepL, wipeE, startE, List.map, List.length, List.cons_append, List.nil_append, List.append_nil, List.getElem?_cons_succ, List.getElem?_cons_zero, List.set_cons_succ, List.set_cons_zero, List.replicate, Nat.reduceAdd, Nat.reduceSub, if_true, if_false, Bool.false_eq_true, reduceIte, true_and, and_true]
        refine roIx_row (seqR_T b) hi ?_
        simp only [roNe]
        by_cases hx : b.getD i 0 = 0
        · simp only [hx, ne_eq, not_true_eq_false, decide_false, decide_true, Bool.not_true, Bool.false_eq_true, if_false, true_and] at hR ⊢; exact hR
        · simp only [hx, ne_eq, not_false_eq_true, decide_true, decide_false, Bool.not_false, if_true, true_and] at hR ⊢; exact ⟨hacc, hR⟩
      · simp only [List.length_range, sizeLine]; omega
      · have e1 : ((List.range b.length).filter fun i => decide (b.getD i 0 ≠ 0)).head? = some (pv b) := by
          rw [List.head?_filter, List.find?_range_eq_some]
          refine ⟨by simpa using pv_ne (by omega), by simp; omega, fun j hj => by simpa using pv_before hj⟩
        obtain ⟨tl, e2⟩ : ∃ tl, ((List.range b.length).filter fun i => decide (b.getD i 0 ≠ 0)) = pv b :: tl := by
          cases q : ((List.range b.length).filter fun i => decide (b.getD i 0 ≠ 0)) with
          | nil => rw [q] at e1; simp at e1
          | cons x tl => rw [q] at e1; simp at e1; subst e1; exact ⟨tl, rfl⟩
        rw [e2]
        refine roIx_at (p := 0) (x := .int (pv b : Nat)) rfl rfl ?_
        refine ⟨_, _, r', b, pv b, rfl, seqR_L _, seqR_T b, by omega, by omega, by omega, hb3, ?_⟩
        simp only [List.map, List.length, List.cons_append, List.nil_append, List.append_nil, List.getElem?_cons_succ, List.getElem?_cons_zero, List.set_cons_succ, List.set_cons_zero, List.replicate, Nat.reduceAdd, Nat.reduceSub, if_true, if_false, Bool.false_eq_true, reduceIte, true_and, and_true]
        have hlr : (red r' b (pv b)).length = n := by rw [red_length (by omega)]; exact hl
        refine roIx_row (seqR_L _) (by omega) ?_
        simp only [roNe, List.map, List.length, List.cons_append, List.nil_append, List.append_nil, List.getElem?_cons_succ, List.getElem?_cons_zero, List.set_cons_succ, List.set_cons_zero, List.replicate, Nat.reduceAdd, Nat.reduceSub, if_true, if_false, Bool.false_eq_true, reduceIte, true_and, and_true]
        simp only [spB] at hs
        by_cases hx : (red r' b (pv b)).getD (pv b) 0 = 0
        · rw [if_pos hx] at hs
          simp only [hx, decide_true, Bool.not_true, List.map, List.length, List.cons_append, List.nil_append, List.append_nil, List.getElem?_cons_succ, List.getElem?_cons_zero, List.set_cons_succ, List.set_cons_zero, List.replicate, Nat.reduceAdd, Nat.reduceSub, if_true, if_false, Bool.false_eq_true, reduceIte, true_and, and_true]
          exact hk' _ _ ⟨rfl, _, _, _, _, _, _, hlr, rfl, hb4, hs⟩
        · rw [if_neg hx] at hs
          simp only [hx, decide_false, Bool.not_false, List.map, List.length, List.cons_append, List.nil_append, List.append_nil, List.getElem?_cons_succ, List.getElem?_cons_zero, List.set_cons_succ, List.set_cons_zero, List.replicate, Nat.reduceAdd, Nat.reduceSub, if_true, if_false, Bool.false_eq_true, reduceIte, true_and, and_true]
          rw [hs] at h4
          exact gc_id h4
    · obtain ⟨rfl, r', d0, o1, o2, o3, o4, hl, rfl, _, hs⟩ := hJ
      simp only [wRet, wRetN, wLc, wLcC, wIZip, wIEnum, wISeq, wIRng1, wIRng2, wCons, wVar, wNil, wSeq, wSet, wAsg, wPar, wIf, wTest, wNext, wDrop, wOp, wUn, wCB, wC, wFor, wAug, wAugL, wAugS, wTup, wLst, wLstC, wNot, wAnd, wOr, wAndV, wOrV, wIfE, wCall, wYes, wgName, wgTup, wgsCons, wgsNil, wgSub, wM, wFrz, wDGet, wDIn, wDPut, wDNew, wRevT, wSl, wPart, wNoPart, wWhile, wSKey, wLcM, wLcD, wLcDC, wIZipD, wISeqD, wFld, wSFld, wMeth, wMake, wLc2, wStepL, wipeE, startE, List.map, List.length, List.cons_append, List.nil_append, List.append_nil, List.getElem?_cons_succ, List.getElem?_cons_zero, List.set_cons_succ, List.set_cons_zero, List.replicate, Nat.reduceAdd, Nat.reduceSub, if_true, if_false, Bool.false_eq_true, reduceIte, true_and, and_true]
      show wLcL _ _ _ _ _ (List.map D.int r') _ _
      refine lc_map D.int (fun x : Int => decide (x ≠ 0)) D.int _ (fun x hx acc R hacc hR => ?_) ?_ ?_
      · simp only [wRet, wRetN, wLc, wLcC, wIZip, wIEnum, wISeq, wIRng1, wIRng2, wCons, wVar, wNil, wSeq, wSet, wAsg, wPar, wIf, wTest, wNext, wDrop, wOp, wUn, wCB, wC, wFor, wAug, wAugL, wAugS, wTup, wLst, wLstC, wNot, wAnd, wOr, wAndV, wOrV, wIfE, wCall, wYes, wgName, wgTup, wgsCons, wgsNil, wgSub, wM, wFrz, wDGet, wDIn, wDPut, wDNew, wRevT, wSl, wPart, wNoPart, wWhile, wSKey, wLcM, wLcD, wLcDC, wIZipD, wISeqD, wFld, wSFld, wMeth, wMake, wLc2, wStepL, wipeE, startE, List.map, List.length, List.cons_append, List.nil_append, List.append_nil, List.getElem?_cons_succ, List.getElem?_cons_zero, List.set_cons_succ, List.set_cons_zero, List.replicate, Nat.reduceAdd, Nat.reduceSub, if_true, if_false, Bool.false_eq_true, reduceIte, true_and, and_true, roNe]
        by_cases hx : x = 0
        · simp only [hx, ne_eq, not_true_eq_false, decide_false, decide_true, Bool.not_true, Bool.false_eq_true, if_false, true_and] at hR ⊢; exact hR
        · simp only [hx, ne_eq, not_false_eq_true, decide_true, decide_false, Bool.not_false, if_true, true_and] at hR ⊢; exact ⟨hacc, hR⟩
      · simp only [sizeLine]; omega
      · refine ⟨by decide, ?_⟩
        refine roEq_nil (sh_ints _) ?_
        have e : spB [] r' = ((List.filter (fun x : Int => decide (x ≠ 0)) r').map D.int).isEmpty := by
          simp only [spB, List.isEmpty_map]
          by_cases hz : pv r' = r'.length
          · have := pv_zero hz
            simp only [hz, decide_true]
            symm
            rw [List.isEmpty_iff, List.filter_eq_nil_iff]
            exact fun x hx => by simp [this x hx]
          · simp only [hz, decide_false]
            symm
            rw [Bool.eq_false_iff]
            intro q
            rw [List.isEmpty_iff, List.filter_eq_nil_iff] at q
            exact hz (zero_pv fun x hx => by simpa using q x hx)
        rw [hs, e] at h4
        exact gc_id h4
end
end K86
namespace K86
open PySem PySem.Spec L2 WL
abbrev Row := List Int
def nzR (p : Nat) (rows : List Row) : List Row := rows.filter fun r => decide (r.getD p 0 ≠ 0)
def zrR (p : Nat) (rows : List Row) : List Row := rows.filter fun r => decide (r.getD p 0 = 0)
theorem cutD_tail (d : D) (ds : List D) : cutD (d :: ds) (some 1) none = ds := by
  have h1 : HT.sIx (ds.length + 1) 0 (some 1) = 1 := by simp [HT.sIx]; try omega
  have h2 : HT.sIx (ds.length + 1) (ds.length + 1) none = ds.length + 1 := by simp [HT.sIx]
  unfold cutD
  rw [List.length_cons, h1, h2]
  simp
theorem cutD_head (d : D) (ds : List D) : cutD (d :: ds) none (some 1) = [d] := by
  have h1 : HT.sIx (ds.length + 1) 0 none = 0 := by simp [HT.sIx]
  have h2 : HT.sIx (ds.length + 1) (ds.length + 1) (some 1) = 1 := by simp [HT.sIx]; try omega
  unfold cutD
  rw [List.length_cons, h1, h2]
  simp
/-- one round: srt the live rows in order, its head takes from the others -/
structure DDInv (n p : Nat) (I : Nat → List Row → List Row → Prop) : Prop where
  len : ∀ m live rest, I m live rest → (∀ r ∈ live, r.length = n) ∧ live.length ≤ 1000 ∧ rest.length ≤ 1000
  step : ∀ m live rest, I m live rest → 1 < live.length → ∀ (srt : List Row) (o : Row) (tl : List Row), srt.Perm live → srt.Pairwise (fun a b => keyAt p a ≤ keyAt p b) → srt = o :: tl →
    (∀ r ∈ tl, redOk r o p) ∧ ∃ m', m' < m ∧ I m' (o :: nzR p (tl.map fun r => red r o p)) (rest ++ zrR p (tl.map fun r => red r o p))
/-- a filter by a place, as a comprehension tells it -/
theorem lc_nz {εb : En} {kd : List D → Mem → Prop} {μ : Mem} {g : WG} {t : WT} {we : WE} {p n : Nat} (rows : List Row) (hn : ∀ r ∈ rows, r.length = n) (hp : p < n)
    (hs : ∀ (r : Row) (R : List D → Mem → Prop) (acc : List D), r ∈ rows → (roIx μ (rowL r) (.int (p : Nat)) fun z => roNe μ z (.int 0) fun z => match z with | .bl b => if b = true then acc.length < sizeLine ∧ R (acc ++ [rowL r]) μ else R acc μ | _ => False) →
      g (rowL r) εb μ fun ε2 μ2 => t ε2 μ2 fun b ε3 μ3 => ε3 = ε2 ∧ if b = true then we ε3 μ3 fun y ε4 μ4 => ε4 = ε2 ∧ acc.length < sizeLine ∧ R (acc ++ [y]) μ4 else R acc μ3)
    (hl : rows.length ≤ sizeLine) (hk : kd ((nzR p rows).map rowL) μ) : wLcL g t we εb kd (rows.map rowL) [] μ := by
  refine lc_map rowL (fun r : Row => decide (r.getD p 0 ≠ 0)) rowL rows (fun r hr acc R hacc hR => ?_) hl hk
  refine hs r R acc hr (roIx_row (seqR_L r) (by rw [hn r hr]; exact hp) ?_)
  simp only [roNe]
  by_cases hx : r.getD p 0 = 0
  · simp only [hx, ne_eq, not_true_eq_false, decide_false, decide_true, Bool.not_true, Bool.false_eq_true, if_false] at hR ⊢; exact hR
  · simp only [hx, ne_eq, not_false_eq_true, decide_true, decide_false, Bool.not_false, if_true] at hR ⊢; exact ⟨hacc, hR⟩
theorem lc_zr {εb : En} {kd : List D → Mem → Prop} {μ : Mem} {g : WG} {t : WT} {we : WE} {p n : Nat} (rows : List Row) (hn : ∀ r ∈ rows, r.length = n) (hp : p < n)
    (hs : ∀ (r : Row) (R : List D → Mem → Prop) (acc : List D), r ∈ rows → (roIx μ (rowL r) (.int (p : Nat)) fun z => roEq μ z (.int 0) fun z => match z with | .bl b => if b = true then acc.length < sizeLine ∧ R (acc ++ [rowL r]) μ else R acc μ | _ => False) →
      g (rowL r) εb μ fun ε2 μ2 => t ε2 μ2 fun b ε3 μ3 => ε3 = ε2 ∧ if b = true then we ε3 μ3 fun y ε4 μ4 => ε4 = ε2 ∧ acc.length < sizeLine ∧ R (acc ++ [y]) μ4 else R acc μ3)
    (hl : rows.length ≤ sizeLine) (hk : kd ((zrR p rows).map rowL) μ) : wLcL g t we εb kd (rows.map rowL) [] μ := by
  refine lc_map rowL (fun r : Row => decide (r.getD p 0 = 0)) rowL rows (fun r hr acc R hacc hR => ?_) hl hk
  refine hs r R acc hr (roIx_row (seqR_L r) (by rw [hn r hr]; exact hp) ?_)
  simp only [roEq]
  by_cases hx : r.getD p 0 = 0
  · simp only [hx, decide_true, if_true] at hR ⊢; exact ⟨hacc, hR⟩
  · simp only [hx, decide_false, Bool.false_eq_true, if_false] at hR ⊢; exact hR
theorem lo_ints (n : Nat) : ∀ r : Row, loL n (r.map D.int) = true
  | [] => rfl
  | x :: r => by simp [loL, D.lo, lo_ints n r]
theorem lo_rows (n : Nat) : ∀ rows : List Row, loL n (rows.map rowL) = true
  | [] => rfl
  | x :: r => by simp [loL, D.lo, rowL, lo_ints n x, lo_rows n r]
section
variable {P : Program} {w : World} {K : PySem.W.Frag} {mg : Str → Option Value} {base : Heap} {T : List (Addr × Str)} {c Pt : Addr}
def fsDD : FS := fun ds μ k => ∃ (rows : List Row) (n p : Nat) (I : Nat → List Row → List Row → Prop), ds = [.lst (rows.map rowL), .int (p : Nat)] ∧ rows.length ≤ 1000 ∧ (∀ r ∈ rows, r.length = n) ∧ p < n ∧ n < 1000 ∧ DDInv n p I ∧
  (∃ m, I m (nzR p rows) (zrR p rows)) ∧ ∀ m live rest, I m live rest → live.length ≤ 1 → k (.tup [.lst (live.map rowL), .lst (rest.map rowL)]) μ
theorem c_divided_down (Z : Zs mg) (Df : DefWC K mg "divided_down" s_divided_down ["rows", "place"] c) (C_less : CalW P w K mg base T 1 "less" fsLess) (TB : LamX.TabB base mg c Pt)
    (hmT : (Pt, ("divided_down.<locals>.<lambda>" : Str)) ∈ T) (hu : ∀ p ∈ T, p.1 = Pt → p.2 = ("divided_down.<locals>.<lambda>" : Str)) : CalW P w K mg base T 2 "divided_down" fsDD := by
  refine cal_wC Df sc_divided_down (fun ds μ k h => ?_) (fun f A outer s H E hr => ⟨_, (b_cons (s_set 2 sc_divided_down.nd (e_lc rfl sc_divided_down.nd (i_seq (e_var 0)) (blkOk_by (N := N_divided_down) (sc := defScope s_divided_down) (own := [("row", 5)]) (by decide +kernel)) (fun _ _ _ _ _ => (g_name 5 sc_divided_down.nd)) (fun _ _ _ _ _ => (ts_one (t_cmp (op_neA hr.units) ok_ne (e_ix ix_seq ok_ix (e_var 5) (e_var 1)) e_int))) (fun _ _ _ _ _ => (e_var 5))))
  (b_cons (s_setLcC 3 rfl sc_divided_down.nd (i_seq (e_var 0)) (blkOk_by (N := N_divided_down) (sc := defScope s_divided_down) (own := [("row", 5)]) (by decide +kernel)) (fun _ _ _ _ _ => (g_name 5 sc_divided_down.nd)) (fun _ _ _ _ _ => (ts_one (t_cmp (op_eqA hr.units) ok_eq (e_ix ix_seq ok_ix (e_var 5) (e_var 1)) e_int))) (fun _ _ _ _ _ => (e_var 5)))
  (b_cons (s_while PySem.PassesOwn.never (t_cmp op_gt ok_gt (e_callB cr_len ok_len rfl Z.z_len (by decide +kernel) (a_cons (e_var 2) a_nil)) e_int) (b_cons (s_set 2 sc_divided_down.nd (e_skey 2 1 rfl (Or.inr (Or.inl rfl)) rfl (Or.inr (Or.inl rfl)) Z.z_sorted Z.z_abs rfl TB rfl hmT hu hr rfl rfl (by decide +kernel) rfl rfl rfl (by decide +kernel) (fun _ _ _ _ _ _ => rfl) rfl rfl rfl (by decide) (by decide) (by decide) (by decide) (by decide)))
  (b_cons (s_setLc 4 rfl sc_divided_down.nd (i_seq (e_slice sl_all ok_slice (e_var 2) (o_some e_int) o_none)) (blkOk_by (N := N_divided_down) (sc := defScope s_divided_down) (own := [("row", 5)]) (by decide +kernel)) (fun _ _ _ _ _ => (g_name 5 sc_divided_down.nd)) (fun _ _ _ _ _ => ts_nil) (fun _ _ _ _ _ => (e_c C_less hr (by decide) rfl (a_cons (e_var 5) (a_cons (e_op op_fdivZ ok_fdiv (e_ix ix_seq ok_ix (e_var 5) (e_var 1)) (e_ix ix_seq ok_ix (e_ix ix_seq ok_ix (e_var 2) e_int) (e_var 1))) (a_cons (e_ix ix_seq ok_ix (e_var 2) e_int) a_nil))))))
  (b_cons (s_augL 3 sc_divided_down.nd (e_lc rfl sc_divided_down.nd (i_seq (e_var 4)) (blkOk_by (N := N_divided_down) (sc := defScope s_divided_down) (own := [("row", 5)]) (by decide +kernel)) (fun _ _ _ _ _ => (g_name 5 sc_divided_down.nd)) (fun _ _ _ _ _ => (ts_one (t_cmp (op_eqA hr.units) ok_eq (e_ix ix_seq ok_ix (e_var 5) (e_var 1)) e_int))) (fun _ _ _ _ _ => (e_var 5))))
  (b_one (s_set 2 sc_divided_down.nd (e_op op_addAll ok_add (e_slice sl_all ok_slice (e_var 2) o_none (o_some e_int)) (e_lc rfl sc_divided_down.nd (i_seq (e_var 4)) (blkOk_by (N := N_divided_down) (sc := defScope s_divided_down) (own := [("row", 5)]) (by decide +kernel)) (fun _ _ _ _ _ => (g_name 5 sc_divided_down.nd)) (fun _ _ _ _ _ => (ts_one (t_cmp (op_neA hr.units) ok_ne (e_ix ix_seq ok_ix (e_var 5) (e_var 1)) e_int))) (fun _ _ _ _ _ => (e_var 5))))))))))
  (b_one (s_ret (e_tup (a_cons (e_var 2) (a_cons (e_frz 3) a_nil)))))))), ?_⟩)
  · obtain ⟨rows, n, p, I, rfl, _⟩ := h
    rfl
  · intro ds μ k h
    obtain ⟨rows, n, p, I, rfl, h1, h2, hp, hn, hI, ⟨m0, hI0⟩, hk⟩ := h
    simp only [wRet, wRetN, wLc, wLcC, wIZip, wIEnum, wISeq, wIRng1, wIRng2, wCons, wVar, wNil, wSeq, wSet, wAsg, wPar, wIf, wTest, wNext, wDrop, wOp, wUn, wCB, wC, wFor, wAug, wAugL, wAugS, wTup, wLst, wLstC, wNot, wAnd, wOr, wAndV, wOrV, wIfE, wCall, wYes, wgName, wgTup, wgsCons, wgsNil, wgSub, wM, wFrz, wDGet, wDIn, wDPut, wDNew, wRevT, wSl, wPart, wNoPart, wWhile, wSKey, wLcM, wLcD, wLcDC, wIZipD, wISeqD, wFld, wSFld, wMeth, wMake, wLc2, wStepL, wipeE, startE, N_divided_down, List.map, List.length, List.cons_append, List.nil_append, List.append_nil, List.getElem?_cons_succ, List.getElem?_cons_zero, List.set_cons_succ, List.set_cons_zero, List.replicate, Nat.reduceAdd, Nat.reduceSub, if_true, if_false, Bool.false_eq_true, reduceIte, true_and, and_true]
    refine lc_nz rows h2 hp (fun r R acc hr hR => ?_) (by simp only [sizeLine]; omega) ?_
    · simp only [wRet, wRetN, wLc, wLcC, wIZip, wIEnum, wISeq, wIRng1, wIRng2, wCons, wVar, wNil, wSeq, wSet, wAsg, wPar, wIf, wTest, wNext, wDrop, wOp, wUn, wCB, wC, wFor, wAug, wAugL, wAugS, wTup, wLst, wLstC, wNot, wAnd, wOr, wAndV, wOrV, wIfE, wCall, wYes, wgName, wgTup, wgsCons, wgsNil, wgSub, wM, wFrz, wDGet, wDIn, wDPut, wDNew, wRevT, wSl, wPart, wNoPart, wWhile, wSKey, wLcM, wLcD, wLcDC, wIZipD, wISeqD, wFld, wSFld, wMeth, wMake, wLc2, wStepL, wipeE, startE, List.map, List.length, List.cons_append, List.nil_append, List.append_nil, List.getElem?_cons_succ, List.getElem?_cons_zero, List.set_cons_succ, List.set_cons_zero, List.replicate, Nat.reduceAdd, Nat.reduceSub, if_true, if_false, Bool.false_eq_true, reduceIte, true_and, and_true]
      exact hR
    refine lc_zr rows h2 hp (fun r R acc hr hR => ?_) (by simp only [sizeLine]; omega) ?_
    · simp only [wRet, wRetN, wLc, wLcC, wIZip, wIEnum, wISeq, wIRng1, wIRng2, wCons, wVar, wNil, wSeq, wSet, wAsg, wPar, wIf, wTest, wNext, wDrop, wOp, wUn, wCB, wC, wFor, wAug, wAugL, wAugS, wTup, wLst, wLstC, wNot, wAnd, wOr, wAndV, wOrV, wIfE, wCall, wYes, wgName, wgTup, wgsCons, wgsNil, wgSub, wM, wFrz, wDGet, wDIn, wDPut, wDNew, wRevT, wSl, wPart, wNoPart, wWhile, wSKey, wLcM, wLcD, wLcDC, wIZipD, wISeqD, wFld, wSFld, wMeth, wMake, wLc2, wStepL, wipeE, startE, List.map, List.length, List.cons_append, List.nil_append, List.append_nil, List.getElem?_cons_succ, List.getElem?_cons_zero, List.set_cons_succ, List.set_cons_zero, List.replicate, Nat.reduceAdd, Nat.reduceSub, if_true, if_false, Bool.false_eq_true, reduceIte, true_and, and_true]
      exact hR
    refine ⟨fun m ε μ' => ∃ live rest o4 o5, I m live rest ∧ ε = [some (D.lst (rows.map rowL)), some (D.int (p : Nat)), some (D.lst (live.map rowL)), some (.ref μ.length), o4, o5] ∧ μ' = μ ++ [Cell.lst (rest.map rowL)], ⟨m0, _, _, _, _, hI0, rfl, rfl⟩, fun m ε μ' h => ?_⟩
    obtain ⟨live, rest, o4, o5, hi, rfl, rfl⟩ := h
    obtain ⟨hl1, hl2, hl3⟩ := hI.len m live rest hi
    simp only [wRet, wRetN, wLc, wLcC, wIZip, wIEnum, wISeq, wIRng1, wIRng2, wCons, wVar, wNil, wSeq, wSet, wAsg, wPar, wIf, wTest, wNext, wDrop, wOp, wUn, wCB, wC, wFor, wAug, wAugL, wAugS, wTup, wLst, wLstC, wNot, wAnd, wOr, wAndV, wOrV, wIfE, wCall, wYes, wgName, wgTup, wgsCons, wgsNil, wgSub, wM, wFrz, wDGet, wDIn, wDPut, wDNew, wRevT, wSl, wPart, wNoPart, wWhile, wSKey, wLcM, wLcD, wLcDC, wIZipD, wISeqD, wFld, wSFld, wMeth, wMake, wLc2, wStepL, wipeE, startE, List.map, List.length, List.cons_append, List.nil_append, List.append_nil, List.getElem?_cons_succ, List.getElem?_cons_zero, List.set_cons_succ, List.set_cons_zero, List.replicate, Nat.reduceAdd, Nat.reduceSub, if_true, if_false, Bool.false_eq_true, reduceIte, true_and, and_true]
    refine len_seq (ds := live.map rowL) rfl ?_
    simp only [roGt, roI0, List.length_map, List.map, List.length, List.cons_append, List.nil_append, List.append_nil, List.getElem?_cons_succ, List.getElem?_cons_zero, List.set_cons_succ, List.set_cons_zero, List.replicate, Nat.reduceAdd, Nat.reduceSub, if_true, if_false, Bool.false_eq_true, reduceIte, true_and, and_true]
    by_cases hc : 1 < live.length
    · rw [if_pos (by simp only [decide_eq_true_eq]; omega)]
      refine ⟨p, live, rfl, rfl, by simp only [sizeLine]; omega, by omega, fun r hr => by rw [hl1 r hr]; exact hp, fun srt hperm hsort => ?_⟩
      have hlen : srt.length = live.length := hperm.length_eq
      cases hs : srt with
      | nil => rw [hs] at hlen; simp at hlen; omega
      | cons o tl =>
        subst hs
        obtain ⟨hred, m', hm', hI'⟩ := hI.step m live rest hi hc _ o tl hperm hsort rfl
        have ho : o.length = n := hl1 o (hperm.mem_iff.mp (List.mem_cons_self ..))
        have htl : ∀ r ∈ tl, r.length = n := fun r hr => hl1 r (hperm.mem_iff.mp (List.mem_cons_of_mem _ hr))
        have htl2 : tl.length ≤ 1000 := by simp at hlen; omega
        have ech : (tl.map fun r => rowL (red r o p)) = (tl.map fun r => red r o p).map rowL := by rw [List.map_map]; rfl
        have hch : ∀ r ∈ tl.map (fun r => red r o p), r.length = n := fun r hr => by
          obtain ⟨x, hx, rfl⟩ := List.mem_map.mp hr
          rw [red_length (by rw [htl x hx, ho])]
          exact htl x hx
        simp only [wRet, wRetN, wLc, wLcC, wIZip, wIEnum, wISeq, wIRng1, wIRng2, wCons, wVar, wNil, wSeq, wSet, wAsg, wPar, wIf, wTest, wNext, wDrop, wOp, wUn, wCB, wC, wFor, wAug, wAugL, wAugS, wTup, wLst, wLstC, wNot, wAnd, wOr, wAndV, wOrV, wIfE, wCall, wYes, wgName, wgTup, wgsCons, wgsNil, wgSub, wM, wFrz, wDGet, wDIn, wDPut, wDNew, wRevT, wSl, wPart, wNoPart, wWhile, wSKey, wLcM, wLcD, wLcDC, wIZipD, wISeqD, wFld, wSFld, wMeth, wMake, wLc2, wStepL, wipeE, startE, List.map, List.length, List.cons_append, List.nil_append, List.append_nil, List.getElem?_cons_succ, List.getElem?_cons_zero, List.set_cons_succ, List.set_cons_zero, List.replicate, Nat.reduceAdd, Nat.reduceSub, if_true, if_false, Bool.false_eq_true, reduceIte, true_and, and_true, soAll, lview, cutD_tail]
        refine lc_all rowL (fun r => rowL (red r o p)) tl (fun r hr acc R hacc hR => ?_) (by simp only [sizeLine]; omega) ?_
        · simp only [wRet, wRetN, wLc, wLcC, wIZip, wIEnum, wISeq, wIRng1, wIRng2, wCons, wVar, wNil, wSeq, wSet, wAsg, wPar, wIf, wTest, wNext, wDrop, wOp, wUn, wCB, wC, wFor, wAug, wAugL, wAugS, wTup, wLst, wLstC, wNot, wAnd, wOr, wAndV, wOrV, wIfE, wCall, wYes, wgName, wgTup, wgsCons, wgsNil, wgSub, wM, wFrz, wDGet, wDIn, wDPut, wDNew, wRevT, wSl, wPart, wNoPart, wWhile, wSKey, wLcM, wLcD, wLcDC, wIZipD, wISeqD, wFld, wSFld, wMeth, wMake, wLc2, wStepL, wipeE, startE, List.map, List.length, List.cons_append, List.nil_append, List.append_nil, List.getElem?_cons_succ, List.getElem?_cons_zero, List.set_cons_succ, List.set_cons_zero, List.replicate, Nat.reduceAdd, Nat.reduceSub, if_true, if_false, Bool.false_eq_true, reduceIte, true_and, and_true]
          refine roIx_row (seqR_L r) (by rw [htl r hr]; exact hp) (roIx_at (p := 0) (ds := rowL o :: tl.map rowL) rfl rfl (roIx_row (seqR_L o) (by rw [ho]; exact hp) ⟨(hred r hr).1, roIx_at (p := 0) (ds := rowL o :: tl.map rowL) rfl rfl ?_⟩))
          exact ⟨_, _, _, r, o, rfl, seqR_L r, seqR_L o, (hred r hr).2, by rw [htl r hr]; omega, hacc, hR⟩
        rw [ech]
        refine lc_zr _ hch hp (fun r R acc hr hR => ?_) (by simp only [sizeLine, List.length_map]; omega) ?_
        · simp only [wRet, wRetN, wLc, wLcC, wIZip, wIEnum, wISeq, wIRng1, wIRng2, wCons, wVar, wNil, wSeq, wSet, wAsg, wPar, wIf, wTest, wNext, wDrop, wOp, wUn, wCB, wC, wFor, wAug, wAugL, wAugS, wTup, wLst, wLstC, wNot, wAnd, wOr, wAndV, wOrV, wIfE, wCall, wYes, wgName, wgTup, wgsCons, wgsNil, wgSub, wM, wFrz, wDGet, wDIn, wDPut, wDNew, wRevT, wSl, wPart, wNoPart, wWhile, wSKey, wLcM, wLcD, wLcDC, wIZipD, wISeqD, wFld, wSFld, wMeth, wMake, wLc2, wStepL, wipeE, startE, List.map, List.length, List.cons_append, List.nil_append, List.append_nil, List.getElem?_cons_succ, List.getElem?_cons_zero, List.set_cons_succ, List.set_cons_zero, List.replicate, Nat.reduceAdd, Nat.reduceSub, if_true, if_false, Bool.false_eq_true, reduceIte, true_and, and_true]
          exact hR
        have e1 : (μ ++ [Cell.lst (rest.map rowL)])[μ.length]? = some (Cell.lst (rest.map rowL)) := by simp
        have e2 : (μ ++ [Cell.lst (rest.map rowL)]).set μ.length (Cell.lst (rest.map rowL ++ (zrR p (tl.map fun r => red r o p)).map rowL)) = μ ++ [Cell.lst ((rest ++ zrR p (tl.map fun r => red r o p)).map rowL)] := by
          rw [List.set_append_right _ _ (by simp)]
          simp
        have hz : (zrR p (tl.map fun r => red r o p)).length ≤ 1000 := Nat.le_trans (List.length_filter_le _ _) (by simpa using htl2)
        simp only [e1, lviewM, List.map, List.length, List.cons_append, List.nil_append, List.append_nil, List.getElem?_cons_succ, List.getElem?_cons_zero, List.set_cons_succ, List.set_cons_zero, List.replicate, Nat.reduceAdd, Nat.reduceSub, if_true, if_false, Bool.false_eq_true, reduceIte, true_and, and_true, e2]
        refine ⟨by simp only [sizeLine, List.length_map]; omega, ?_⟩
        simp only [cutD_head]
        refine lc_nz _ hch hp (fun r R acc hr hR => ?_) (by simp only [sizeLine, List.length_map]; omega) ?_
        · simp only [wRet, wRetN, wLc, wLcC, wIZip, wIEnum, wISeq, wIRng1, wIRng2, wCons, wVar, wNil, wSeq, wSet, wAsg, wPar, wIf, wTest, wNext, wDrop, wOp, wUn, wCB, wC, wFor, wAug, wAugL, wAugS, wTup, wLst, wLstC, wNot, wAnd, wOr, wAndV, wOrV, wIfE, wCall, wYes, wgName, wgTup, wgsCons, wgsNil, wgSub, wM, wFrz, wDGet, wDIn, wDPut, wDNew, wRevT, wSl, wPart, wNoPart, wWhile, wSKey, wLcM, wLcD, wLcDC, wIZipD, wISeqD, wFld, wSFld, wMeth, wMake, wLc2, wStepL, wipeE, startE, List.map, List.length, List.cons_append, List.nil_append, List.append_nil, List.getElem?_cons_succ, List.getElem?_cons_zero, List.set_cons_succ, List.set_cons_zero, List.replicate, Nat.reduceAdd, Nat.reduceSub, if_true, if_false, Bool.false_eq_true, reduceIte, true_and, and_true]
          exact hR
        have hz2 : (nzR p (tl.map fun r => red r o p)).length ≤ 1000 := Nat.le_trans (List.length_filter_le _ _) (by simpa using htl2)
        simp only [roAdd, lviewM, List.map, List.length, List.cons_append, List.nil_append, List.append_nil, List.getElem?_cons_succ, List.getElem?_cons_zero, List.set_cons_succ, List.set_cons_zero, List.replicate, Nat.reduceAdd, Nat.reduceSub, if_true, if_false, Bool.false_eq_true, reduceIte, true_and, and_true, List.length_map]
        exact ⟨by simp only [sizeLine]; omega, m', hm', _, _, _, _, hI', rfl, rfl⟩
    · rw [if_neg (by simp only [decide_eq_true_eq]; omega)]
      have e1 : (μ ++ [Cell.lst (rest.map rowL)])[μ.length]? = some (Cell.lst (rest.map rowL)) := by simp
      have e2 : (μ ++ [Cell.lst (rest.map rowL)]).set μ.length Cell.dead = μ ++ [Cell.dead] := by
        rw [List.set_append_right _ _ (by simp)]
        simp
      simp only [e1, List.map, List.length, List.cons_append, List.nil_append, List.append_nil, List.getElem?_cons_succ, List.getElem?_cons_zero, List.set_cons_succ, List.set_cons_zero, List.replicate, Nat.reduceAdd, Nat.reduceSub, if_true, if_false, Bool.false_eq_true, reduceIte, true_and, and_true, e2]
      refine ⟨by decide, gc_pure ?_ (hk m live rest hi (by omega))⟩
      simp [D.lo, loL, lo_rows]
end
end K86
namespace K86
open PySem PySem.Spec L2 WL
def negL (r : Row) : Row := r.map fun x => -x
def ownOf (r : Row) (p : Nat) : Row := if 0 < r.getD p 0 then r else negL r
theorem ownOf_length (r : Row) (p : Nat) : (ownOf r p).length = r.length := by unfold ownOf negL; split <;> simp
structure EchInv (n : Nat) (J : Nat → List Row → List Row → Prop) : Prop where
  len : ∀ p found rows, J p found rows → (∀ r ∈ rows, r.length = n) ∧ (∀ r ∈ found, r.length = n) ∧ rows.length ≤ 1000 ∧ found.length ≤ p
  dd : ∀ p found rows, p < n → J p found rows → ∃ I, DDInv n p I ∧ (∃ m, I m (nzR p rows) (zrR p rows)) ∧ ∀ m live rest, I m live rest → live.length ≤ 1 →
    (live = [] → J (p + 1) found rest) ∧ (∀ o, live = [o] → (∀ r ∈ found, redOk r (ownOf o p) p) ∧ J (p + 1) (found.map (fun r => red r (ownOf o p) p) ++ [ownOf o p]) rest)
section
variable {P : Program} {w : World} {K : PySem.W.Frag} {mg : Str → Option Value} {base : Heap} {T : List (Addr × Str)} {c Pt : Addr}
def fsEch : FS := fun ds μ k => ∃ (rows : List Row) (n : Nat) (J : Nat → List Row → List Row → Prop), ds = [.tup (rows.map rowT), .int (n : Nat)] ∧ rows.length ≤ 1000 ∧ n < 1000 ∧ EchInv n J ∧ J 0 [] rows ∧
  ∀ found rows', J n found rows' → k (.lst (found.map rowL)) μ
theorem c_echelon (Z : Zs mg) (Df : DefW K mg "echelon" s_echelon ["rows", "width"]) (C_less : CalW P w K mg base T 1 "less" fsLess) (C_divided_down : CalW P w K mg base T 2 "divided_down" fsDD) : CalW P w K mg base T 3 "echelon" fsEch := by
  refine cal_w Df sc_echelon (fun ds μ k h => ?_) (fun f cdv A outer s H E hr => ⟨_, (b_cons (s_par 3 0 rfl sc_echelon.nd (a_cons (e_lst a_nil) (a_cons (e_lc rfl sc_echelon.nd (i_seq (e_var 0)) (blkOk_by (N := N_echelon) (sc := defScope s_echelon) (own := [("row", 6)]) (by decide +kernel)) (fun _ _ _ _ _ => (g_name 6 sc_echelon.nd)) (fun _ _ _ _ _ => ts_nil) (fun _ _ _ _ _ => (e_callTy call_list_of ok_list rfl Z.z_list (by decide +kernel) (a_cons (e_var 6) a_nil)))) a_nil)))
  (b_cons (s_for PySem.PassesOwn.never rfl (i_rng1 rfl Z.z_range (a_cons (e_var 1) a_nil)) (g_name 2 sc_echelon.nd) (b_cons (s_asg (e_c C_divided_down hr (by decide) rfl (a_cons (e_var 0) (a_cons (e_var 2) a_nil))) (g_tup (n := 2) rfl (gs_cons (g_name 4 sc_echelon.nd) (gs_cons (g_name 0 sc_echelon.nd) gs_nil))))
  (b_one (s_if (t_cmp (op_neA hr.units) ok_ne (e_var 4) (e_lst a_nil)) (b_cons (s_set 5 sc_echelon.nd (e_if (t_cmp op_gt ok_gt (e_ix ix_seq ok_ix (e_ix ix_seq ok_ix (e_var 4) e_int) (e_var 2)) e_int) (e_ix ix_seq ok_ix (e_var 4) e_int) (e_lc rfl sc_echelon.nd (i_seq (e_ix ix_seq ok_ix (e_var 4) e_int)) (blkOk_by (N := N_echelon) (sc := defScope s_echelon) (own := [("one", 7)]) (by decide +kernel)) (fun _ _ _ _ _ => (g_name 7 sc_echelon.nd)) (fun _ _ _ _ _ => ts_nil) (fun _ _ _ _ _ => (e_un un_neg ok_neg (e_var 7))))))
  (b_one (s_set 3 sc_echelon.nd (e_op op_addAll ok_add (e_lc rfl sc_echelon.nd (i_seq (e_var 3)) (blkOk_by (N := N_echelon) (sc := defScope s_echelon) (own := [("row", 6)]) (by decide +kernel)) (fun _ _ _ _ _ => (g_name 6 sc_echelon.nd)) (fun _ _ _ _ _ => ts_nil) (fun _ _ _ _ _ => (e_c C_less hr (by decide) rfl (a_cons (e_var 6) (a_cons (e_op op_fdivZ ok_fdiv (e_ix ix_seq ok_ix (e_var 6) (e_var 2)) (e_ix ix_seq ok_ix (e_var 5) (e_var 2))) (a_cons (e_var 5) a_nil)))))) (e_lst (a_cons (e_var 5) a_nil)))))) b_nil))))
  (b_one (s_ret (e_var 3))))), ?_⟩)
  · obtain ⟨rows, n, J, rfl, _⟩ := h
    rfl
  · intro ds μ k h
    obtain ⟨rows, n, J, rfl, h1, hn, hJ, hJ0, hk⟩ := h
    simp only [wRet, wRetN, wLc, wLcC, wIZip, wIEnum, wISeq, wIRng1, wIRng2, wCons, wVar, wNil, wSeq, wSet, wAsg, wPar, wIf, wTest, wNext, wDrop, wOp, wUn, wCB, wC, wFor, wAug, wAugL, wAugS, wTup, wLst, wLstC, wNot, wAnd, wOr, wAndV, wOrV, wIfE, wCall, wYes, wgName, wgTup, wgsCons, wgsNil, wgSub, wM, wFrz, wDGet, wDIn, wDPut, wDNew, wRevT, wSl, wPart, wNoPart, wWhile, wSKey, wLcM, wLcD, wLcDC, wIZipD, wISeqD, wFld, wSFld, wMeth, wMake, wLc2, wStepL, wipeE, startE, N_echelon, List.map, List.length, List.cons_append, List.nil_append, List.append_nil, List.getElem?_cons_succ, List.getElem?_cons_zero, List.set_cons_succ, List.set_cons_zero, List.replicate, Nat.reduceAdd, Nat.reduceSub, if_true, if_false, Bool.false_eq_true, reduceIte, true_and, and_true]
    refine ⟨by decide, ?_⟩
    refine lc_all rowT rowL rows (fun r hr acc R hacc hR => ?_) (by simp only [sizeLine]; omega) ?_
    · simp only [wRet, wRetN, wLc, wLcC, wIZip, wIEnum, wISeq, wIRng1, wIRng2, wCons, wVar, wNil, wSeq, wSet, wAsg, wPar, wIf, wTest, wNext, wDrop, wOp, wUn, wCB, wC, wFor, wAug, wAugL, wAugS, wTup, wLst, wLstC, wNot, wAnd, wOr, wAndV, wOrV, wIfE, wCall, wYes, wgName, wgTup, wgsCons, wgsNil, wgSub, wM, wFrz, wDGet, wDIn, wDPut, wDNew, wRevT, wSl, wPart, wNoPart, wWhile, wSKey, wLcM, wLcD, wLcDC, wIZipD, wISeqD, wFld, wSFld, wMeth, wMake, wLc2, wStepL, wipeE, startE, List.map, List.length, List.cons_append, List.nil_append, List.append_nil, List.getElem?_cons_succ, List.getElem?_cons_zero, List.set_cons_succ, List.set_cons_zero, List.replicate, Nat.reduceAdd, Nat.reduceSub, if_true, if_false, Bool.false_eq_true, reduceIte, true_and, and_true]
      exact ⟨hacc, hR⟩
    refine ⟨by omega, by omega, ?_⟩
    rw [rng_to]
    refine for_range _ _ (fun i ε μ' => μ' = μ ∧ ∃ found rows' o2 o4 o5 o6 o7, J i found rows' ∧ ε = [some (D.lst (rows'.map rowL)), some (D.int (n : Nat)), o2, some (D.lst (found.map rowL)), o4, o5, o6, o7]) (fun i ε μ' k' hi hJi hk' => ?_) (fun ε μ' hJn => ?_) ⟨rfl, [], rows, _, _, _, _, _, hJ0, rfl⟩
    · obtain ⟨rfl, found, rows', o2, o4, o5, o6, o7, hj, rfl⟩ := hJi
      obtain ⟨l1, l2, l3, l4⟩ := hJ.len i found rows' hj
      obtain ⟨I, hI1, hI2, hI3⟩ := hJ.dd i found rows' hi hj
      simp only [wRet, wRetN, wLc, wLcC, wIZip, wIEnum, wISeq, wIRng1, wIRng2, wCons, wVar, wNil, wSeq, wSet, wAsg, wPar, wIf, wTest, wNext, wDrop, wOp, wUn, wCB, wC, wFor, wAug, wAugL, wAugS, wTup, wLst, wLstC, wNot, wAnd, wOr, wAndV, wOrV, wIfE, wCall, wYes, wgName, wgTup, wgsCons, wgsNil, wgSub, wM, wFrz, wDGet, wDIn, wDPut, wDNew, wRevT, wSl, wPart, wNoPart, wWhile, wSKey, wLcM, wLcD, wLcDC, wIZipD, wISeqD, wFld, wSFld, wMeth, wMake, wLc2, wStepL, wipeE, startE, List.map, List.length, List.cons_append, List.nil_append, List.append_nil, List.getElem?_cons_succ, List.getElem?_cons_zero, List.set_cons_succ, List.set_cons_zero, List.replicate, Nat.reduceAdd, Nat.reduceSub, if_true, if_false, Bool.false_eq_true, reduceIte, true_and, and_true]
      refine ⟨rows', n, i, I, rfl, l3, l1, hi, hn, hI1, hI2, fun m live rest hm hlv => ?_⟩
      obtain ⟨g1, g2⟩ := hI3 m live rest hm hlv
      simp only [wRet, wRetN, wLc, wLcC, wIZip, wIEnum, wISeq, wIRng1, wIRng2, wCons, wVar, wNil, wSeq, wSet, wAsg, wPar, wIf, wTest, wNext, wDrop, wOp, wUn, wCB, wC, wFor, wAug, wAugL, wAugS, wTup, wLst, wLstC, wNot, wAnd, wOr, wAndV, wOrV, wIfE, wCall, wYes, wgName, wgTup, wgsCons, wgsNil, wgSub, wM, wFrz, wDGet, wDIn, wDPut, wDNew, wRevT, wSl, wPart, wNoPart, wWhile, wSKey, wLcM, wLcD, wLcDC, wIZipD, wISeqD, wFld, wSFld, wMeth, wMake, wLc2, wStepL, wipeE, startE, List.map, List.length, List.cons_append, List.nil_append, List.append_nil, List.getElem?_cons_succ, List.getElem?_cons_zero, List.set_cons_succ, List.set_cons_zero, List.replicate, Nat.reduceAdd, Nat.reduceSub, if_true, if_false, Bool.false_eq_true, reduceIte, true_and, and_true]
      refine ⟨by decide, roNe_nil (sh_rowsL _) ?_⟩
      have q := hI1.len m live rest hm
      cases live with
      | nil =>
        simp only [List.map, List.length, List.cons_append, List.nil_append, List.append_nil, List.getElem?_cons_succ, List.getElem?_cons_zero, List.set_cons_succ, List.set_cons_zero, List.replicate, Nat.reduceAdd, Nat.reduceSub, if_true, if_false, Bool.false_eq_true, reduceIte, true_and, and_true, List.isEmpty_nil, Bool.not_true]
        exact hk' _ _ ⟨rfl, found, rest, _, _, _, _, _, g1 rfl, rfl⟩
      | cons o tl =>
        cases tl with
        | cons _ _ => simp at hlv
        | nil =>
          obtain ⟨g3, g4⟩ := g2 o rfl
          have ho : o.length = n := q.1 o (List.mem_cons_self ..)
          simp only [List.map, List.length, List.cons_append, List.nil_append, List.append_nil, List.getElem?_cons_succ, List.getElem?_cons_zero, List.set_cons_succ, List.set_cons_zero, List.replicate, Nat.reduceAdd, Nat.reduceSub, if_true, if_false, Bool.false_eq_true, reduceIte, true_and, and_true, List.isEmpty_cons, Bool.not_false]
          refine roIx_at (p := 0) (ds := [rowL o]) rfl rfl (roIx_row (seqR_L o) (by omega) ?_)
          have rest_ok : ∀ own : Row, own = ownOf o i → wLcL (wgName 6) wYes
              (wCall fsLess (wCons (wVar 6) (wCons (wOp roFdiv (wOp roIx (wVar 6) (wVar 2)) (wOp roIx (wVar 5) (wVar 2))) (wCons (wVar 5) wNil))))
              [some (D.lst (rest.map rowL)), some (D.int (n : Nat)), some (D.int (i : Nat)), some (D.lst (found.map rowL)), some (D.lst [rowL o]), some (rowL own), none, o7]
              (fun acc μ2 => 1 ≤ sizeLine ∧ roAdd μ2 (D.lst acc) (D.lst [rowL own]) fun z => k' [some (D.lst (rest.map rowL)), some (D.int (n : Nat)), some (D.int (i : Nat)), some z, some (D.lst [rowL o]), some (rowL own), o6, o7] μ2) (found.map rowL) [] μ' := by
            rintro own rfl
            have hown : (ownOf o i).length = n := by rw [ownOf_length]; exact ho
            refine lc_all rowL (fun r => rowL (red r (ownOf o i) i)) found (fun r hr acc R hacc hR => ?_) (by simp only [sizeLine]; omega) ?_
            · simp only [wRet, wRetN, wLc, wLcC, wIZip, wIEnum, wISeq, wIRng1, wIRng2, wCons, wVar, wNil, wSeq, wSet, wAsg, wPar, wIf, wTest, wNext, wDrop, wOp, wUn, wCB, wC, wFor, wAug, wAugL, wAugS, wTup, wLst, wLstC, wNot, wAnd, wOr, wAndV, wOrV, wIfE, wCall, wYes, wgName, wgTup, wgsCons, wgsNil, wgSub, wM, wFrz, wDGet, wDIn, wDPut, wDNew, wRevT, wSl, wPart, wNoPart, wWhile, wSKey, wLcM, wLcD, wLcDC, wIZipD, wISeqD, wFld, wSFld, wMeth, wMake, wLc2, wStepL, wipeE, startE, List.map, List.length, List.cons_append, List.nil_append, List.append_nil, List.getElem?_cons_succ, List.getElem?_cons_zero, List.set_cons_succ, List.set_cons_zero, List.replicate, Nat.reduceAdd, Nat.reduceSub, if_true, if_false, Bool.false_eq_true, reduceIte, true_and, and_true]
              refine roIx_row (seqR_L r) (by rw [l2 r hr]; exact hi) (roIx_row (seqR_L _) (by rw [hown]; exact hi) ⟨(g3 r hr).1, ?_⟩)
              exact ⟨_, _, _, r, _, rfl, seqR_L r, seqR_L _, (g3 r hr).2, by rw [l2 r hr]; omega, hacc, hR⟩
            · simp only [roAdd, lviewM, List.length_map, List.map, List.length, List.cons_append, List.nil_append, List.append_nil, List.getElem?_cons_succ, List.getElem?_cons_zero, List.set_cons_succ, List.set_cons_zero, List.replicate, Nat.reduceAdd, Nat.reduceSub, if_true, if_false, Bool.false_eq_true, reduceIte, true_and, and_true]
              have e3 : (found.map fun r => rowL (red r (ownOf o i) i)) ++ [rowL (ownOf o i)] = (found.map (fun r => red r (ownOf o i) i) ++ [ownOf o i]).map rowL := by
                rw [List.map_append, List.map_map]
                rfl
              rw [e3]
              exact ⟨by decide, by simp only [sizeLine]; omega, hk' _ _ ⟨rfl, _, rest, _, _, _, _, _, g4, rfl⟩⟩
          simp only [roGt, roI0]
          by_cases hs : 0 < o.getD i 0
          · rw [if_pos (by simpa using hs)]
            refine roIx_at (p := 0) (ds := [rowL o]) rfl rfl ?_
            exact rest_ok o (by unfold ownOf; rw [if_pos hs])
          · rw [if_neg (by simpa using hs)]
            refine roIx_at (p := 0) (ds := [rowL o]) rfl rfl ?_
            show wLcL _ _ _ _ _ (List.map D.int o) _ _
            refine lc_all D.int (fun x => D.int (-x)) o (fun x hx acc R hacc hR => ?_) (by simp only [sizeLine]; omega) ?_
            · simp only [wRet, wRetN, wLc, wLcC, wIZip, wIEnum, wISeq, wIRng1, wIRng2, wCons, wVar, wNil, wSeq, wSet, wAsg, wPar, wIf, wTest, wNext, wDrop, wOp, wUn, wCB, wC, wFor, wAug, wAugL, wAugS, wTup, wLst, wLstC, wNot, wAnd, wOr, wAndV, wOrV, wIfE, wCall, wYes, wgName, wgTup, wgsCons, wgsNil, wgSub, wM, wFrz, wDGet, wDIn, wDPut, wDNew, wRevT, wSl, wPart, wNoPart, wWhile, wSKey, wLcM, wLcD, wLcDC, wIZipD, wISeqD, wFld, wSFld, wMeth, wMake, wLc2, wStepL, wipeE, startE, List.map, List.length, List.cons_append, List.nil_append, List.append_nil, List.getElem?_cons_succ, List.getElem?_cons_zero, List.set_cons_succ, List.set_cons_zero, List.replicate, Nat.reduceAdd, Nat.reduceSub, if_true, if_false, Bool.false_eq_true, reduceIte, true_and, and_true, uoNeg]
              exact ⟨hacc, hR⟩
            have e : o.map (fun x => D.int (-x)) = (negL o).map D.int := by simp [negL]
            rw [e]
            exact rest_ok (negL o) (by unfold ownOf; rw [if_neg hs])
    · obtain ⟨rfl, found, rows', o2, o4, o5, o6, o7, hj, rfl⟩ := hJn
      simp only [wRet, wRetN, wLc, wLcC, wIZip, wIEnum, wISeq, wIRng1, wIRng2, wCons, wVar, wNil, wSeq, wSet, wAsg, wPar, wIf, wTest, wNext, wDrop, wOp, wUn, wCB, wC, wFor, wAug, wAugL, wAugS, wTup, wLst, wLstC, wNot, wAnd, wOr, wAndV, wOrV, wIfE, wCall, wYes, wgName, wgTup, wgsCons, wgsNil, wgSub, wM, wFrz, wDGet, wDIn, wDPut, wDNew, wRevT, wSl, wPart, wNoPart, wWhile, wSKey, wLcM, wLcD, wLcDC, wIZipD, wISeqD, wFld, wSFld, wMeth, wMake, wLc2, wStepL, wipeE, startE, List.map, List.length, List.cons_append, List.nil_append, List.append_nil, List.getElem?_cons_succ, List.getElem?_cons_zero, List.set_cons_succ, List.set_cons_zero, List.replicate, Nat.reduceAdd, Nat.reduceSub, if_true, if_false, Bool.false_eq_true, reduceIte, true_and, and_true]
      exact gc_id (hk found rows' (by simpa using hj))
def fsBasis : FS := fun ds μ k => ∃ (rows : List Row) (n : Nat) (J : Nat → List Row → List Row → Prop), ds = [.tup (rows.map rowT)] ∧ rows.length ≤ 1000 ∧ 0 < rows.length ∧ (∀ r ∈ rows, r.length = n) ∧ n < 1000 ∧ EchInv n J ∧ J 0 [] rows ∧
  ∀ found rows', J n found rows' → k (.tup (found.map rowT)) μ
theorem c_basis_of (Z : Zs mg) (Df : DefW K mg "basis_of" s_basis_of ["rows"]) (C_echelon : CalW P w K mg base T 3 "echelon" fsEch) : CalW P w K mg base T 4 "basis_of" fsBasis := by
  refine cal_w Df sc_basis_of (fun ds μ k h => ?_) (fun f cdv A outer s H E hr => ⟨_, (b_one (s_ret (e_callTy call_tuple_of ok_tuple rfl Z.z_tuple (by decide +kernel) (a_cons (e_lc rfl sc_basis_of.nd (i_seq (e_c C_echelon hr (by decide) rfl (a_cons (e_var 0) (a_cons (e_callB cr_len ok_len rfl Z.z_len (by decide +kernel) (a_cons (e_ix ix_seq ok_ix (e_var 0) e_int) a_nil)) a_nil)))) (blkOk_by (N := N_basis_of) (sc := defScope s_basis_of) (own := [("row", 1)]) (by decide +kernel)) (fun _ _ _ _ _ => (g_name 1 sc_basis_of.nd)) (fun _ _ _ _ _ => ts_nil) (fun _ _ _ _ _ => (e_callTy call_tuple_of ok_tuple rfl Z.z_tuple (by decide +kernel) (a_cons (e_var 1) a_nil)))) a_nil)))), ?_⟩)
  · obtain ⟨rows, n, J, rfl, _⟩ := h
    rfl
  · intro ds μ k h
    obtain ⟨rows, n, J, rfl, h1, h0, hl, hn, hJ, hJ0, hk⟩ := h
    simp only [wRet, wRetN, wLc, wLcC, wIZip, wIEnum, wISeq, wIRng1, wIRng2, wCons, wVar, wNil, wSeq, wSet, wAsg, wPar, wIf, wTest, wNext, wDrop, wOp, wUn, wCB, wC, wFor, wAug, wAugL, wAugS, wTup, wLst, wLstC, wNot, wAnd, wOr, wAndV, wOrV, wIfE, wCall, wYes, wgName, wgTup, wgsCons, wgsNil, wgSub, wM, wFrz, wDGet, wDIn, wDPut, wDNew, wRevT, wSl, wPart, wNoPart, wWhile, wSKey, wLcM, wLcD, wLcDC, wIZipD, wISeqD, wFld, wSFld, wMeth, wMake, wLc2, wStepL, wipeE, startE, N_basis_of, List.map, List.length, List.cons_append, List.nil_append, List.append_nil, List.getElem?_cons_succ, List.getElem?_cons_zero, List.set_cons_succ, List.set_cons_zero, List.replicate, Nat.reduceAdd, Nat.reduceSub, if_true, if_false, Bool.false_eq_true, reduceIte, true_and, and_true]
    refine roIx_at (p := 0) (ds := rows.map rowT) (x := rowT rows[0]) rfl (by simp [h0]) (len_row (seqR_T _) ?_)
    rw [hl _ (List.getElem_mem h0)]
    refine ⟨rows, n, J, rfl, h1, hn, hJ, hJ0, fun found rows' hj => ?_⟩
    obtain ⟨l1, l2, l3, l4⟩ := hJ.len n found rows' hj
    refine lc_all rowL rowT found (fun r hr acc R hacc hR => ?_) (by simp only [sizeLine]; omega) ?_
    · simp only [wRet, wRetN, wLc, wLcC, wIZip, wIEnum, wISeq, wIRng1, wIRng2, wCons, wVar, wNil, wSeq, wSet, wAsg, wPar, wIf, wTest, wNext, wDrop, wOp, wUn, wCB, wC, wFor, wAug, wAugL, wAugS, wTup, wLst, wLstC, wNot, wAnd, wOr, wAndV, wOrV, wIfE, wCall, wYes, wgName, wgTup, wgsCons, wgsNil, wgSub, wM, wFrz, wDGet, wDIn, wDPut, wDNew, wRevT, wSl, wPart, wNoPart, wWhile, wSKey, wLcM, wLcD, wLcDC, wIZipD, wISeqD, wFld, wSFld, wMeth, wMake, wLc2, wStepL, wipeE, startE, List.map, List.length, List.cons_append, List.nil_append, List.append_nil, List.getElem?_cons_succ, List.getElem?_cons_zero, List.set_cons_succ, List.set_cons_zero, List.replicate, Nat.reduceAdd, Nat.reduceSub, if_true, if_false, Bool.false_eq_true, reduceIte, true_and, and_true]
      exact ⟨hacc, hR⟩
    · exact gc_id (hk found rows' hj)
end
end K86
namespace K86
open PySem PySem.Spec L2 WL
/-! the dict of rows -/
abbrev Held := List (Nat × Row)
def kvOf (h : Held) : List (Key × D) := h.map fun p => (Sum.inl (p.1 : Int), rowL p.2)
def hget (h : Held) (k : Nat) : Option Row := (h.find? fun p => decide (p.1 = k)).map (·.2)
def hput (h : Held) (k : Nat) (r : Row) : Held := if h.any (fun p => decide (p.1 = k)) then h.map (fun p => if p.1 = k then (p.1, r) else p) else h ++ [(k, r)]
theorem key_iff {a b : Nat} : ((Sum.inl (a : Int) : Key) = Sum.inl (b : Int)) ↔ a = b := by
  constructor
  · intro h
    have := Sum.inl.inj h
    omega
  · intro h; rw [h]
theorem dget_of : ∀ (h : Held) (k : Nat), dget (kvOf h) (.inl (k : Int)) = (hget h k).map rowL
  | [], k => rfl
  | p :: h, k => by
    have ih := dget_of h k
    unfold dget hget kvOf at ih ⊢
    rw [List.map_cons, List.find?_cons, List.find?_cons]
    by_cases hk : p.1 = k
    · simp [key_iff, hk]
    · simp only [key_iff, hk, decide_false]
      exact ih
theorem any_of (h : Held) (k : Nat) : (kvOf h).any (fun kv => decide (kv.1 = .inl (k : Int))) = h.any (fun p => decide (p.1 = k)) := by
  unfold kvOf
  rw [List.any_map]
  congr 1
  funext p
  simp only [Function.comp, key_iff]
theorem dput_of (h : Held) (k : Nat) (r : Row) : dput (kvOf h) (.inl (k : Int)) (rowL r) = kvOf (hput h k r) := by
  unfold dput hput
  rw [any_of]
  split
  · unfold kvOf
    rw [List.map_map, List.map_map]
    refine List.map_congr_left fun p hp => ?_
    simp only [Function.comp, key_iff]
    split <;> rfl
  · unfold kvOf
    rw [List.map_append]
    rfl
theorem keysI_of : ∀ h : Held, keysI (kvOf h) = some (h.map fun p => (p.1 : Int))
  | [] => rfl
  | p :: h => by
    have ih := keysI_of h
    unfold kvOf at ih ⊢
    rw [List.map_cons, List.map_cons]
    unfold keysI
    rw [ih]
    rfl
theorem hput_length (h : Held) (k : Nat) (r : Row) : (hput h k r).length ≤ h.length + 1 := by unfold hput; split <;> simp
theorem zeros_of (n : Nat) : (List.replicate n [D.int 0]).flatten = (List.replicate n (0 : Int)).map D.int := by
  induction n with
  | zero => rfl
  | succ n ih => rw [List.replicate_succ, List.replicate_succ, List.flatten_cons, ih]; rfl
/-- what the two loops of _law_basis keep -/
structure LbInv (n : Nat) (rows : List Row) (Hh : Nat → Held → Prop) (G : Nat → Nat → Held → Row → Prop) (Eu : Nat → Nat → Held → Nat → Row → Row → Prop) (F : Held → List Nat → Nat → List Row → Prop) : Prop where
  begin_ : ∀ i held r, rows[i]? = some r → Hh i held → G i 0 held r
  len : ∀ i k held row, G i k held row → row.length = n ∧ held.length ≤ 1000
  zero : ∀ i k held row, k < n → G i k held row → row.getD k 0 = 0 → G i (k + 1) held row
  new : ∀ i k held row, k < n → G i k held row → row.getD k 0 ≠ 0 → hget held k = none → G i (k + 1) (hput held k row) (List.replicate n 0)
  old : ∀ i k held row own, k < n → G i k held row → row.getD k 0 ≠ 0 → hget held k = some own → ∃ m, Eu i k held m own row
  eu : ∀ i k held m own row, Eu i k held m own row → own.length = n ∧ row.length = n ∧ held.length ≤ 1000 ∧ (row.getD k 0 ≠ 0 → redOk own row k ∧ ∃ m', m' < m ∧ Eu i k held m' row (red own row k)) ∧ (row.getD k 0 = 0 → G i (k + 1) (hput held k own) row)
  next : ∀ i held row, i < rows.length → G i n held row → Hh (i + 1) held
  hl : ∀ held, Hh rows.length held → held.length < 64
  flen : ∀ held ks found, F held ks ks.length found → found.length ≤ 1000
  f0 : ∀ held ks, Hh rows.length held → (ks.map fun x : Nat => (x : Int)).Perm (held.map fun p => (p.1 : Int)) → ks.Pairwise (· ≤ ·) → F held ks 0 []
  fs : ∀ held ks j k found, ks[j]? = some k → F held ks j found → found.length ≤ j ∧ ks.length < 64 ∧ ∃ own0, hget held k = some own0 ∧ own0.length = n ∧ k < n ∧ (∀ r ∈ found, r.length = n ∧ redOk r (ownOf own0 k) k) ∧
    F held ks (j + 1) (found.map (fun r => red r (ownOf own0 k) k) ++ [ownOf own0 k])
theorem lo_intsT (n : Nat) (r : Row) : D.lo n (rowT r) = true := by simp [D.lo, rowT, lo_ints]
theorem lo_rowsT (n : Nat) : ∀ rows : List Row, loL n (rows.map rowT) = true
  | [] => rfl
  | x :: r => by simp [loL, lo_intsT n x, lo_rowsT n r]
section
variable {P : Program} {w : World} {K : PySem.W.Frag} {mg : Str → Option Value} {base : Heap} {T : List (Addr × Str)} {c Pt : Addr}
def fsLB : FS := fun ds μ k => ∃ (rows : List Row) (n : Nat) (Hh : Nat → Held → Prop) (G : Nat → Nat → Held → Row → Prop) (Eu : Nat → Nat → Held → Nat → Row → Row → Prop) (F : Held → List Nat → Nat → List Row → Prop), ds = [.tup (rows.map rowT)] ∧
  rows.length ≤ 1000 ∧ 0 < rows.length ∧ (∀ r ∈ rows, r.length = n) ∧ n < 1000 ∧ LbInv n rows Hh G Eu F ∧ Hh 0 [] ∧ ∀ held ks found, F held ks ks.length found → k (.tup (found.map rowT)) μ
theorem c__law_basis (Z : Zs mg) (Df : DefW K mg "_law_basis" s__law_basis ["rows"]) (C__law_less : CalW P w K mg base T 1 "_law_less" fsLawLess) : CalW P w K mg base T 2 "_law_basis" fsLB := by
  refine cal_w Df sc__law_basis (fun ds μ k h => ?_) (fun f cdv A outer s H E hr => ?_)
  · obtain ⟨rows, n, Hh, G, Eu, F, rfl, _⟩ := h
    rfl
  have hu := hu_of hr
  refine ⟨_, (b_cons (s_par 4 5 rfl sc__law_basis.nd (a_cons e_dnew (a_cons (e_callB cr_len ok_len rfl Z.z_len (by decide +kernel) (a_cons (e_ix ix_seq ok_ix (e_var 0) e_int) a_nil)) a_nil)))
  (b_cons (s_for PySem.PassesOwn.never rfl (i_seq (e_var 0)) (g_name 1 sc__law_basis.nd) (b_cons (s_set 6 sc__law_basis.nd (e_callTy call_list_of ok_list rfl Z.z_list (by decide +kernel) (a_cons (e_var 1) a_nil)))
  (b_one (s_for PySem.PassesOwn.never rfl (i_rng1 rfl Z.z_range (a_cons (e_var 5) a_nil)) (g_name 3 sc__law_basis.nd) (b_one (s_if (t_pw (p_and (t_cmp (op_neA hr.units) ok_ne (e_ix ix_seq ok_ix (e_var 6) (e_var 3)) e_int) (p_and1 (t_din hu (e_var 3) (e_var 4))))) (b_cons (s_set 7 sc__law_basis.nd (e_dget hu (e_var 4) (e_var 3)))
  (b_cons (s_while PySem.PassesOwn.never (t_cmp (op_neA hr.units) ok_ne (e_ix ix_seq ok_ix (e_var 6) (e_var 3)) e_int) (b_cons (s_set 8 sc__law_basis.nd (e_op op_fdivZ ok_fdiv (e_ix ix_seq ok_ix (e_var 7) (e_var 3)) (e_ix ix_seq ok_ix (e_var 6) (e_var 3))))
  (b_one (s_asg (e_tup (a_cons (e_var 6) (a_cons (e_lc rfl sc__law_basis.nd (i_rng1 rfl Z.z_range (a_cons (e_var 5) a_nil)) (blkOk_by (N := N__law_basis) (sc := defScope s__law_basis) (own := [("i", 10)]) (by decide +kernel)) (fun _ _ _ _ _ => (g_name 10 sc__law_basis.nd)) (fun _ _ _ _ _ => ts_nil) (fun _ _ _ _ _ => (e_op op_sub ok_sub (e_ix ix_seq ok_ix (e_var 7) (e_var 10)) (e_op op_mulAll ok_mul (e_var 8) (e_ix ix_seq ok_ix (e_var 6) (e_var 10)))))) a_nil))) (g_tup (n := 2) rfl (gs_cons (g_name 7 sc__law_basis.nd) (gs_cons (g_name 6 sc__law_basis.nd) gs_nil)))))))
  (b_one (s_dput hu (e_var 7) (e_var 4) (e_var 3))))) (b_one (s_if (t_cmp (op_neA hr.units) ok_ne (e_ix ix_seq ok_ix (e_var 6) (e_var 3)) e_int) (b_cons (s_dput hu (e_var 6) (e_var 4) (e_var 3))
  (b_one (s_set 6 sc__law_basis.nd (e_op op_mulAll ok_mul (e_lst (a_cons e_int a_nil)) (e_var 5))))) b_nil))))))))
  (b_cons (s_set 2 sc__law_basis.nd (e_lst a_nil))
  (b_cons (s_for PySem.PassesOwn.never rfl (i_seq (e_callB (call_sortedDI rfl) ok_sortedDI rfl Z.z_sorted (by decide +kernel) (a_cons (e_var 4) a_nil))) (g_name 3 sc__law_basis.nd) (b_cons (s_set 7 sc__law_basis.nd (e_if (t_cmp op_gt ok_gt (e_ix ix_seq ok_ix (e_dget hu (e_var 4) (e_var 3)) (e_var 3)) e_int) (e_dget hu (e_var 4) (e_var 3)) (e_lc rfl sc__law_basis.nd (i_seq (e_dget hu (e_var 4) (e_var 3))) (blkOk_by (N := N__law_basis) (sc := defScope s__law_basis) (own := [("one", 9)]) (by decide +kernel)) (fun _ _ _ _ _ => (g_name 9 sc__law_basis.nd)) (fun _ _ _ _ _ => ts_nil) (fun _ _ _ _ _ => (e_op op_sub ok_sub e_int (e_var 9))))))
  (b_one (s_set 2 sc__law_basis.nd (e_op op_addAll ok_add (e_lc rfl sc__law_basis.nd (i_seq (e_var 2)) (blkOk_by (N := N__law_basis) (sc := defScope s__law_basis) (own := [("one", 9)]) (by decide +kernel)) (fun _ _ _ _ _ => (g_name 9 sc__law_basis.nd)) (fun _ _ _ _ _ => ts_nil) (fun _ _ _ _ _ => (e_c C__law_less hr (by decide) rfl (a_cons (e_var 9) (a_cons (e_var 7) (a_cons (e_var 3) a_nil)))))) (e_lst (a_cons (e_var 7) a_nil)))))))
  (b_one (s_ret (e_callTy call_tuple_of ok_tuple rfl Z.z_tuple (by decide +kernel) (a_cons (e_lc rfl sc__law_basis.nd (i_seq (e_var 2)) (blkOk_by (N := N__law_basis) (sc := defScope s__law_basis) (own := [("one", 9)]) (by decide +kernel)) (fun _ _ _ _ _ => (g_name 9 sc__law_basis.nd)) (fun _ _ _ _ _ => ts_nil) (fun _ _ _ _ _ => (e_callTy call_tuple_of ok_tuple rfl Z.z_tuple (by decide +kernel) (a_cons (e_var 9) a_nil)))) a_nil)))))))), ?_⟩
  intro ds μ k h
  obtain ⟨rows, n, Hh, G, Eu, F, rfl, h1, h0, hl, hn, hI, hH0, hk⟩ := h
  simp only [wRet, wRetN, wLc, wLcC, wIZip, wIEnum, wISeq, wIRng1, wIRng2, wCons, wVar, wNil, wSeq, wSet, wAsg, wPar, wIf, wTest, wNext, wDrop, wOp, wUn, wCB, wC, wFor, wAug, wAugL, wAugS, wTup, wLst, wLstC, wNot, wAnd, wOr, wAndV, wOrV, wIfE, wCall, wYes, wgName, wgTup, wgsCons, wgsNil, wgSub, wM, wFrz, wDGet, wDIn, wDPut, wDNew, wRevT, wSl, wPart, wNoPart, wWhile, wSKey, wLcM, wLcD, wLcDC, wIZipD, wISeqD, wFld, wSFld, wMeth, wMake, wLc2, wStepL, wipeE, startE, N__law_basis, List.map, List.length, List.cons_append, List.nil_append, List.append_nil, List.getElem?_cons_succ, List.getElem?_cons_zero, List.set_cons_succ, List.set_cons_zero, List.replicate, Nat.reduceAdd, Nat.reduceSub, if_true, if_false, Bool.false_eq_true, reduceIte, true_and, and_true]
  refine roIx_at (p := 0) (ds := rows.map rowT) (x := rowT rows[0]) rfl (by simp [h0]) (len_row (seqR_T _) ?_)
  rw [hl _ (List.getElem_mem h0)]
  refine for_list rowT rows (fun i ε μ' => ∃ held o1 o2 o3 o6 o7 o8 o9 o10, Hh i held ∧ ε = [some (D.tup (rows.map rowT)), o1, o2, o3, some (.ref μ.length), some (.int (n : Nat)), o6, o7, o8, o9, o10] ∧ μ' = μ ++ [Cell.dK (kvOf held)])
    (fun i r ε μ' k' hir hJ hk' => ?_) (fun ε μ' hJ => ?_) ⟨[], _, _, _, _, _, _, _, _, hH0, rfl, rfl⟩
  · obtain ⟨held, o1, o2, o3, o6, o7, o8, o9, o10, hh, rfl, rfl⟩ := hJ
    have hi : i < rows.length := (List.getElem?_eq_some_iff.mp hir).1
    simp only [wRet, wRetN, wLc, wLcC, wIZip, wIEnum, wISeq, wIRng1, wIRng2, wCons, wVar, wNil, wSeq, wSet, wAsg, wPar, wIf, wTest, wNext, wDrop, wOp, wUn, wCB, wC, wFor, wAug, wAugL, wAugS, wTup, wLst, wLstC, wNot, wAnd, wOr, wAndV, wOrV, wIfE, wCall, wYes, wgName, wgTup, wgsCons, wgsNil, wgSub, wM, wFrz, wDGet, wDIn, wDPut, wDNew, wRevT, wSl, wPart, wNoPart, wWhile, wSKey, wLcM, wLcD, wLcDC, wIZipD, wISeqD, wFld, wSFld, wMeth, wMake, wLc2, wStepL, wipeE, startE, List.map, List.length, List.cons_append, List.nil_append, List.append_nil, List.getElem?_cons_succ, List.getElem?_cons_zero, List.set_cons_succ, List.set_cons_zero, List.replicate, Nat.reduceAdd, Nat.reduceSub, if_true, if_false, Bool.false_eq_true, reduceIte, true_and, and_true]
    have e0 : ∀ μ, coList μ [rowT r] = fun k => k (rowL r) := fun _ => rfl
    rw [e0]
    refine ⟨by omega, by omega, ?_⟩
    rw [rng_to]
    refine for_range _ _ (fun kk ε μ' => ∃ held row d1 o2 o3 o7 o8 o9 o10, G i kk held row ∧ ε = [some (D.tup (rows.map rowT)), some d1, o2, o3, some (.ref μ.length), some (.int (n : Nat)), some (rowL row), o7, o8, o9, o10] ∧ μ' = μ ++ [Cell.dK (kvOf held)])
      (fun kk ε μ' k2 hkk hJ hk2 => ?_) (fun ε μ' hJ => ?_) ⟨held, r, _, _, _, _, _, _, _, hI.begin_ i held r hir hh, rfl, rfl⟩
    · obtain ⟨held, row, d1, o2, o3, o7, o8, o9, o10, hg, rfl, rfl⟩ := hJ
      obtain ⟨g1, g2⟩ := hI.len i kk held row hg
      have dv : ∀ h : Held, dview (μ ++ [Cell.dK (kvOf h)]) (.ref μ.length) = some (kvOf h) := fun h => by simp [dview]
      have st : ∀ h h' : Held, (μ ++ [Cell.dK (kvOf h)]).set μ.length (Cell.dK (kvOf h')) = μ ++ [Cell.dK (kvOf h')] := fun h h' => by
        rw [List.set_append_right _ _ (by simp)]
        simp
      simp only [wRet, wRetN, wLc, wLcC, wIZip, wIEnum, wISeq, wIRng1, wIRng2, wCons, wVar, wNil, wSeq, wSet, wAsg, wPar, wIf, wTest, wNext, wDrop, wOp, wUn, wCB, wC, wFor, wAug, wAugL, wAugS, wTup, wLst, wLstC, wNot, wAnd, wOr, wAndV, wOrV, wIfE, wCall, wYes, wgName, wgTup, wgsCons, wgsNil, wgSub, wM, wFrz, wDGet, wDIn, wDPut, wDNew, wRevT, wSl, wPart, wNoPart, wWhile, wSKey, wLcM, wLcD, wLcDC, wIZipD, wISeqD, wFld, wSFld, wMeth, wMake, wLc2, wStepL, wipeE, startE, List.map, List.length, List.cons_append, List.nil_append, List.append_nil, List.getElem?_cons_succ, List.getElem?_cons_zero, List.set_cons_succ, List.set_cons_zero, List.replicate, Nat.reduceAdd, Nat.reduceSub, if_true, if_false, Bool.false_eq_true, reduceIte, true_and, and_true]
      refine roIx_row (seqR_L row) (by omega) ?_
      by_cases hx : row.getD kk 0 = 0
      · simp only [roNe, hx, decide_true, Bool.not_true, List.map, List.length, List.cons_append, List.nil_append, List.append_nil, List.getElem?_cons_succ, List.getElem?_cons_zero, List.set_cons_succ, List.set_cons_zero, List.replicate, Nat.reduceAdd, Nat.reduceSub, if_true, if_false, Bool.false_eq_true, reduceIte, true_and, and_true]
        refine roIx_row (seqR_L row) (by omega) ?_
        simp only [hx, decide_true, Bool.not_true, List.map, List.length, List.cons_append, List.nil_append, List.append_nil, List.getElem?_cons_succ, List.getElem?_cons_zero, List.set_cons_succ, List.set_cons_zero, List.replicate, Nat.reduceAdd, Nat.reduceSub, if_true, if_false, Bool.false_eq_true, reduceIte, true_and, and_true]
        exact hk2 _ _ ⟨held, row, _, _, _, _, _, _, _, hI.zero i kk held row hkk hg hx, rfl, rfl⟩
      · simp only [roNe, hx, decide_false, Bool.not_false, List.map, List.length, List.cons_append, List.nil_append, List.append_nil, List.getElem?_cons_succ, List.getElem?_cons_zero, List.set_cons_succ, List.set_cons_zero, List.replicate, Nat.reduceAdd, Nat.reduceSub, if_true, if_false, Bool.false_eq_true, reduceIte, true_and, and_true, dv, keyD, dget_of]
        cases hgt : hget held kk with
        | none =>
          simp only [Option.map_none, Option.isSome_none, List.map, List.length, List.cons_append, List.nil_append, List.append_nil, List.getElem?_cons_succ, List.getElem?_cons_zero, List.set_cons_succ, List.set_cons_zero, List.replicate, Nat.reduceAdd, Nat.reduceSub, if_true, if_false, Bool.false_eq_true, reduceIte, true_and, and_true]
          refine roIx_row (seqR_L row) (by omega) ?_
          simp only [hx, decide_false, Bool.not_false, List.map, List.length, List.cons_append, List.nil_append, List.append_nil, List.getElem?_cons_succ, List.getElem?_cons_zero, List.set_cons_succ, List.set_cons_zero, List.replicate, Nat.reduceAdd, Nat.reduceSub, if_true, if_false, Bool.false_eq_true, reduceIte, true_and, and_true, dput_of, st, roMul, lviewM]
          refine ⟨by unfold kvOf; rw [List.length_map]; simp only [sizeLine]; omega, by decide, by omega, by omega, by simp only [sizeLine]; omega, ?_⟩
          rw [rng_to, zeros_of]
          exact hk2 _ _ ⟨_, List.replicate n 0, _, _, _, _, _, _, _, hI.new i kk held row hkk hg hx hgt, rfl, rfl⟩
        | some own =>
          simp only [Option.map_some, Option.isSome_some, List.map, List.length, List.cons_append, List.nil_append, List.append_nil, List.getElem?_cons_succ, List.getElem?_cons_zero, List.set_cons_succ, List.set_cons_zero, List.replicate, Nat.reduceAdd, Nat.reduceSub, if_true, if_false, Bool.false_eq_true, reduceIte, true_and, and_true]
          obtain ⟨m0, hm0⟩ := hI.old i kk held row own hkk hg hx hgt
          refine ⟨fun m ε μ' => ∃ own row o2 o8 o9 o10, Eu i kk held m own row ∧ ε = [some (D.tup (rows.map rowT)), some d1, o2, some (.int (kk : Nat)), some (.ref μ.length), some (.int (n : Nat)), some (rowL row), some (rowL own), o8, o9, o10] ∧ μ' = μ ++ [Cell.dK (kvOf held)], ⟨m0, own, row, _, _, _, _, hm0, rfl, rfl⟩, fun m ε μ' h => ?_⟩
          obtain ⟨own, row, o2, o8, o9, o10, hE, rfl, rfl⟩ := h
          obtain ⟨q1, q2, q3, q4, q5⟩ := hI.eu i kk held m own row hE
          simp only [wRet, wRetN, wLc, wLcC, wIZip, wIEnum, wISeq, wIRng1, wIRng2, wCons, wVar, wNil, wSeq, wSet, wAsg, wPar, wIf, wTest, wNext, wDrop, wOp, wUn, wCB, wC, wFor, wAug, wAugL, wAugS, wTup, wLst, wLstC, wNot, wAnd, wOr, wAndV, wOrV, wIfE, wCall, wYes, wgName, wgTup, wgsCons, wgsNil, wgSub, wM, wFrz, wDGet, wDIn, wDPut, wDNew, wRevT, wSl, wPart, wNoPart, wWhile, wSKey, wLcM, wLcD, wLcDC, wIZipD, wISeqD, wFld, wSFld, wMeth, wMake, wLc2, wStepL, wipeE, startE, List.map, List.length, List.cons_append, List.nil_append, List.append_nil, List.getElem?_cons_succ, List.getElem?_cons_zero, List.set_cons_succ, List.set_cons_zero, List.replicate, Nat.reduceAdd, Nat.reduceSub, if_true, if_false, Bool.false_eq_true, reduceIte, true_and, and_true]
          refine roIx_row (seqR_L row) (by omega) ?_
          simp only [roNe]
          by_cases hy : row.getD kk 0 = 0
          · simp only [hy, decide_true, Bool.not_true, List.map, List.length, List.cons_append, List.nil_append, List.append_nil, List.getElem?_cons_succ, List.getElem?_cons_zero, List.set_cons_succ, List.set_cons_zero, List.replicate, Nat.reduceAdd, Nat.reduceSub, if_true, if_false, Bool.false_eq_true, reduceIte, true_and, and_true, dv, keyD, dput_of, st]
            exact ⟨by unfold kvOf; rw [List.length_map]; simp only [sizeLine]; omega, hk2 _ _ ⟨_, row, _, _, _, _, _, _, _, q5 hy, rfl, rfl⟩⟩
          · obtain ⟨⟨r1, r2⟩, m', hm', hE'⟩ := q4 hy
            simp only [hy, decide_false, Bool.not_false, List.map, List.length, List.cons_append, List.nil_append, List.append_nil, List.getElem?_cons_succ, List.getElem?_cons_zero, List.set_cons_succ, List.set_cons_zero, List.replicate, Nat.reduceAdd, Nat.reduceSub, if_true, if_false, Bool.false_eq_true, reduceIte, true_and, and_true]
            refine roIx_row (seqR_L own) (by omega) (roIx_row (seqR_L row) (by omega) ⟨r1, ⟨by omega, by omega, ?_⟩⟩)
            rw [rng_to]
            refine lc_all _ (fun a => D.int (own.getD a 0 - quo own row kk * row.getD a 0)) _ (fun a ha acc R hacc hR => ?_) (by simp only [List.length_range, sizeLine]; omega) ?_
            · have ha : a < n := List.mem_range.mp ha
              simp only [wRet, wRetN, wLc, wLcC, wIZip, wIEnum, wISeq, wIRng1, wIRng2, wCons, wVar, wNil, wSeq, wSet, wAsg, wPar, wIf, wTest, wNext, wDrop, wOp, wUn, wCB, wC, wFor, wAug, wAugL, wAugS, wTup, wLst, wLstC, wNot, wAnd, wOr, wAndV, wOrV, wIfE, wCall, wYes, wgName, wgTup, wgsCons, wgsNil, wgSub, wM, wFrz, wDGet, wDIn, wDPut, wDNew, wRevT, wSl, wPart, wNoPart, wWhile, wSKey, wLcM, wLcD, wLcDC, wIZipD, wISeqD, wFld, wSFld, wMeth, wMake, wLc2, wStepL, wipeE, startE, List.map, List.length, List.cons_append, List.nil_append, List.append_nil, List.getElem?_cons_succ, List.getElem?_cons_zero, List.set_cons_succ, List.set_cons_zero, List.replicate, Nat.reduceAdd, Nat.reduceSub, if_true, if_false, Bool.false_eq_true, reduceIte, true_and, and_true, roSub, roMul, roI0]
              refine roIx_row (seqR_L own) (by omega) (roIx_row (seqR_L row) (by omega) ⟨r2 _ ?_, hacc, hR⟩)
              rw [List.getD_eq_getElem?_getD, List.getElem?_eq_getElem (by omega)]
              exact List.getElem_mem _
            have e := lessL_range (r := own) (o := row) (f := quo own row kk) (by omega)
            rw [q1] at e
            have e2 : (List.range n).map (fun a => D.int (own.getD a 0 - quo own row kk * row.getD a 0)) = (red own row kk).map D.int := by
              rw [red, ← e, List.map_map]
              rfl
            rw [e2]
            exact ⟨by decide, m', hm', row, red own row kk, _, _, _, _, hE', rfl, rfl⟩
    · obtain ⟨held, row, d1, o2, o3, o7, o8, o9, o10, hg, rfl, rfl⟩ := hJ
      exact hk' _ _ ⟨held, _, _, _, _, _, _, _, _, hI.next i held row hi (by simpa using hg), rfl, rfl⟩
  · obtain ⟨held, o1, o2, o3, o6, o7, o8, o9, o10, hh, rfl, rfl⟩ := hJ
    have hh : Hh rows.length held := by simpa using hh
    have dv : dview (μ ++ [Cell.dK (kvOf held)]) (.ref μ.length) = some (kvOf held) := by simp [dview]
    simp only [wRet, wRetN, wLc, wLcC, wIZip, wIEnum, wISeq, wIRng1, wIRng2, wCons, wVar, wNil, wSeq, wSet, wAsg, wPar, wIf, wTest, wNext, wDrop, wOp, wUn, wCB, wC, wFor, wAug, wAugL, wAugS, wTup, wLst, wLstC, wNot, wAnd, wOr, wAndV, wOrV, wIfE, wCall, wYes, wgName, wgTup, wgsCons, wgsNil, wgSub, wM, wFrz, wDGet, wDIn, wDPut, wDNew, wRevT, wSl, wPart, wNoPart, wWhile, wSKey, wLcM, wLcD, wLcDC, wIZipD, wISeqD, wFld, wSFld, wMeth, wMake, wLc2, wStepL, wipeE, startE, List.map, List.length, List.cons_append, List.nil_append, List.append_nil, List.getElem?_cons_succ, List.getElem?_cons_zero, List.set_cons_succ, List.set_cons_zero, List.replicate, Nat.reduceAdd, Nat.reduceSub, if_true, if_false, Bool.false_eq_true, reduceIte, true_and, and_true, coSortedDI, dv, keysI_of]
    refine ⟨by decide, by have := hI.hl held hh; simpa using this, fun ys hperm hsort => ?_⟩
    obtain ⟨ks, rfl⟩ : ∃ ks : List Nat, ys = ks.map fun x : Nat => (x : Int) := by
      refine ⟨ys.map Int.toNat, ?_⟩
      rw [List.map_map]
      symm
      conv => rhs; rw [← List.map_id ys]
      refine List.map_congr_left fun y hy => ?_
      obtain ⟨p, hp, e⟩ := List.mem_map.mp (hperm.mem_iff.mp hy)
      simp only [Function.comp, id]
      omega
    have hsort : ks.Pairwise (· ≤ ·) := by
      rw [List.pairwise_map] at hsort
      exact hsort.imp fun h => by omega
    rw [List.map_map]
    refine for_list _ ks (fun j ε μ' => ∃ found o1 o3 o6 o7 o8 o9 o10, F held ks j found ∧ ε = [some (D.tup (rows.map rowT)), o1, some (D.lst (found.map rowL)), o3, some (.ref μ.length), some (.int (n : Nat)), o6, o7, o8, o9, o10] ∧ μ' = μ ++ [Cell.dK (kvOf held)])
      (fun j kk ε μ' k' hjk hJ hk' => ?_) (fun ε μ' hJ => ?_) ⟨[], _, _, _, _, _, _, _, hI.f0 held ks hh hperm hsort, rfl, rfl⟩
    · obtain ⟨found, o1, o3, o6, o7, o8, o9, o10, hf, rfl, rfl⟩ := hJ
      obtain ⟨f1, f2, own0, f3, f4, f5, f6, f7⟩ := hI.fs held ks j kk found hjk hf
      have hj : j < ks.length := (List.getElem?_eq_some_iff.mp hjk).1
      simp only [wRet, wRetN, wLc, wLcC, wIZip, wIEnum, wISeq, wIRng1, wIRng2, wCons, wVar, wNil, wSeq, wSet, wAsg, wPar, wIf, wTest, wNext, wDrop, wOp, wUn, wCB, wC, wFor, wAug, wAugL, wAugS, wTup, wLst, wLstC, wNot, wAnd, wOr, wAndV, wOrV, wIfE, wCall, wYes, wgName, wgTup, wgsCons, wgsNil, wgSub, wM, wFrz, wDGet, wDIn, wDPut, wDNew, wRevT, wSl, wPart, wNoPart, wWhile, wSKey, wLcM, wLcD, wLcDC, wIZipD, wISeqD, wFld, wSFld, wMeth, wMake, wLc2, wStepL, wipeE, startE, List.map, List.length, List.cons_append, List.nil_append, List.append_nil, List.getElem?_cons_succ, List.getElem?_cons_zero, List.set_cons_succ, List.set_cons_zero, List.replicate, Nat.reduceAdd, Nat.reduceSub, if_true, if_false, Bool.false_eq_true, reduceIte, true_and, and_true, Function.comp, dv, keyD, dget_of, f3, Option.map_some]
      refine roIx_row (seqR_L own0) (by omega) ?_
      have rest_ok : ∀ own : Row, own = ownOf own0 kk → wLcL (wgName 9) wYes
          (wCall fsLawLess (wCons (wVar 9) (wCons (wVar 7) (wCons (wVar 3) wNil))))
          [some (D.tup (rows.map rowT)), o1, some (D.lst (found.map rowL)), some (.int (kk : Nat)), some (.ref μ.length), some (.int (n : Nat)), o6, some (rowL own), o8, none, o10]
          (fun acc μ2 => 1 ≤ sizeLine ∧ roAdd μ2 (D.lst acc) (D.lst [rowL own]) fun z => k' [some (D.tup (rows.map rowT)), o1, some z, some (.int (kk : Nat)), some (.ref μ.length), some (.int (n : Nat)), o6, some (rowL own), o8, o9, o10] μ2) (found.map rowL) [] (μ ++ [Cell.dK (kvOf held)]) := by
        rintro own rfl
        have hown : (ownOf own0 kk).length = n := by rw [ownOf_length]; exact f4
        refine lc_all rowL (fun r => rowL (red r (ownOf own0 kk) kk)) found (fun r hr acc R hacc hR => ?_) (by simp only [sizeLine]; omega) ?_
        · have hrl := (f6 r hr).1
          exact ⟨_, _, r, _, kk, rfl, seqR_L r, seqR_L _, by omega, by omega, by omega, (f6 r hr).2, rfl, hacc, hR⟩
        · simp only [roAdd, lviewM, List.length_map, List.map, List.length, List.cons_append, List.nil_append, List.append_nil, List.getElem?_cons_succ, List.getElem?_cons_zero, List.set_cons_succ, List.set_cons_zero, List.replicate, Nat.reduceAdd, Nat.reduceSub, if_true, if_false, Bool.false_eq_true, reduceIte, true_and, and_true]
          have e3 : (found.map fun r => rowL (red r (ownOf own0 kk) kk)) ++ [rowL (ownOf own0 kk)] = (found.map (fun r => red r (ownOf own0 kk) kk) ++ [ownOf own0 kk]).map rowL := by
            rw [List.map_append, List.map_map]
            rfl
          rw [e3]
          exact ⟨by decide, by simp only [sizeLine]; omega, hk' _ _ ⟨_, _, _, _, _, _, _, _, f7, rfl, rfl⟩⟩
      simp only [roGt, roI0]
      by_cases hs : 0 < own0.getD kk 0
      · rw [if_pos (by simpa using hs)]
        exact rest_ok own0 (by unfold ownOf; rw [if_pos hs])
      · rw [if_neg (by simpa using hs)]
        show wLcL _ _ _ _ _ (List.map D.int own0) _ _
        refine lc_all D.int (fun x => D.int (0 - x)) own0 (fun x hx acc R hacc hR => ?_) (by simp only [sizeLine]; omega) ?_
        · simp only [wRet, wRetN, wLc, wLcC, wIZip, wIEnum, wISeq, wIRng1, wIRng2, wCons, wVar, wNil, wSeq, wSet, wAsg, wPar, wIf, wTest, wNext, wDrop, wOp, wUn, wCB, wC, wFor, wAug, wAugL, wAugS, wTup, wLst, wLstC, wNot, wAnd, wOr, wAndV, wOrV, wIfE, wCall, wYes, wgName, wgTup, wgsCons, wgsNil, wgSub, wM, wFrz, wDGet, wDIn, wDPut, wDNew, wRevT, wSl, wPart, wNoPart, wWhile, wSKey, wLcM, wLcD, wLcDC, wIZipD, wISeqD, wFld, wSFld, wMeth, wMake, wLc2, wStepL, wipeE, startE, List.map, List.length, List.cons_append, List.nil_append, List.append_nil, List.getElem?_cons_succ, List.getElem?_cons_zero, List.set_cons_succ, List.set_cons_zero, List.replicate, Nat.reduceAdd, Nat.reduceSub, if_true, if_false, Bool.false_eq_true, reduceIte, true_and, and_true, roSub, roI0]
          exact ⟨hacc, hR⟩
        have e : own0.map (fun x => D.int (0 - x)) = (negL own0).map D.int := by simp [negL]
        rw [e]
        exact rest_ok (negL own0) (by unfold ownOf; rw [if_neg hs])
    · obtain ⟨found, o1, o3, o6, o7, o8, o9, o10, hf, rfl, rfl⟩ := hJ
      simp only [wRet, wRetN, wLc, wLcC, wIZip, wIEnum, wISeq, wIRng1, wIRng2, wCons, wVar, wNil, wSeq, wSet, wAsg, wPar, wIf, wTest, wNext, wDrop, wOp, wUn, wCB, wC, wFor, wAug, wAugL, wAugS, wTup, wLst, wLstC, wNot, wAnd, wOr, wAndV, wOrV, wIfE, wCall, wYes, wgName, wgTup, wgsCons, wgsNil, wgSub, wM, wFrz, wDGet, wDIn, wDPut, wDNew, wRevT, wSl, wPart, wNoPart, wWhile, wSKey, wLcM, wLcD, wLcDC, wIZipD, wISeqD, wFld, wSFld, wMeth, wMake, wLc2, wStepL, wipeE, startE, List.map, List.length, List.cons_append, List.nil_append, List.append_nil, List.getElem?_cons_succ, List.getElem?_cons_zero, List.set_cons_succ, List.set_cons_zero, List.replicate, Nat.reduceAdd, Nat.reduceSub, if_true, if_false, Bool.false_eq_true, reduceIte, true_and, and_true]
      have hf : F held ks ks.length found := hf
      have hfl := hI.flen held ks found hf
      refine lc_all rowL rowT found (fun r hr acc R hacc hR => ?_) (by simp only [sizeLine]; omega) ?_
      · simp only [wRet, wRetN, wLc, wLcC, wIZip, wIEnum, wISeq, wIRng1, wIRng2, wCons, wVar, wNil, wSeq, wSet, wAsg, wPar, wIf, wTest, wNext, wDrop, wOp, wUn, wCB, wC, wFor, wAug, wAugL, wAugS, wTup, wLst, wLstC, wNot, wAnd, wOr, wAndV, wOrV, wIfE, wCall, wYes, wgName, wgTup, wgsCons, wgsNil, wgSub, wM, wFrz, wDGet, wDIn, wDPut, wDNew, wRevT, wSl, wPart, wNoPart, wWhile, wSKey, wLcM, wLcD, wLcDC, wIZipD, wISeqD, wFld, wSFld, wMeth, wMake, wLc2, wStepL, wipeE, startE, List.map, List.length, List.cons_append, List.nil_append, List.append_nil, List.getElem?_cons_succ, List.getElem?_cons_zero, List.set_cons_succ, List.set_cons_zero, List.replicate, Nat.reduceAdd, Nat.reduceSub, if_true, if_false, Bool.false_eq_true, reduceIte, true_and, and_true]
        exact ⟨hacc, hR⟩
      · refine gc_pure ?_ (hk held ks found hf)
        simp [D.lo, lo_rowsT]
end
end K86
namespace K86
open PySem PySem.Spec L2 WL
/-! the pot -/
abbrev potM (cells : List Int) (p1 p2 : Int) (ν : Mem) : Mem := .lst (cells.map D.int) :: .lst [.ref 0, .int p1, .int p2, .int 0] :: ν
theorem mul_r {i j : Int} (h1 : -(2 ^ 64) < j) (h2 : j < 2 ^ 64) : IntMulOk i j := IntMulOk.of_right (intBits_le_64 h1 h2)
theorem mul_l {i j : Int} (h1 : -(2 ^ 64) < i) (h2 : i < 2 ^ 64) : IntMulOk i j := IntMulOk.of_left (intBits_le_64 h1 h2)
theorem fmod_lo {a b : Int} (h : 0 < b) : 0 ≤ a.fmod b := Int.fmod_nonneg_of_pos a h
theorem fmod_hi {a b : Int} (h : 0 < b) : a.fmod b < b := Int.fmod_lt_of_pos a h
section
variable {P : Program} {w : World} {K : PySem.W.Frag} {mg : Str → Option Value} {base : Heap} {T : List (Addr × Str)} {c Pt : Addr}
def fsPot : FS := fun ds μ k => ∃ (s : List Int), ds = [.fl (s.map D.int), .int 0] ∧ μ = [] ∧ s.length ≤ 1000000 ∧ ∀ cells : List Int, cells.length = s.length → (∀ x ∈ cells, 0 ≤ x) → k (.ref 1) (potM cells 0 0 [])
theorem c__law_pot (Z : Zs mg) (Df : DefW K mg "_law_pot" s__law_pot ["script", "shares"]) : CalW P w K mg base T 1 "_law_pot" fsPot := by
  refine cal_w Df sc__law_pot (fun ds μ k h => ?_) (fun f cdv A outer s H E hr => ⟨_, (b_one (s_ret (e_lstC (a_cons (e_lcC rfl sc__law_pot.nd (i_seq (e_var 0)) (blkOk_by (N := N__law_pot) (sc := defScope s__law_pot) (own := [("cell", 2)]) (by decide +kernel)) (fun _ _ _ _ _ => (g_name 2 sc__law_pot.nd)) (fun _ _ _ _ _ => ts_nil) (fun _ _ _ _ _ => (e_if (t_cmp op_ge ok_ge (e_var 2) e_int) (e_callTy call_int1 ok_int rfl Z.z_int (by decide +kernel) (a_cons (e_var 2) a_nil)) (e_op op_sub ok_sub e_int (e_op op_mulAll ok_mul e_int (e_callTy call_int1 ok_int rfl Z.z_int (by decide +kernel) (a_cons (e_var 2) a_nil))))))) (a_cons e_int (a_cons e_int (a_cons (e_var 1) a_nil))))))), ?_⟩)
  · obtain ⟨s, rfl, _⟩ := h
    rfl
  · intro ds μ k h
    obtain ⟨s, rfl, rfl, h1, hk⟩ := h
    simp only [wRet, wRetN, wLc, wLcC, wIZip, wIEnum, wISeq, wIRng1, wIRng2, wCons, wVar, wNil, wSeq, wSet, wAsg, wPar, wIf, wTest, wNext, wDrop, wOp, wUn, wCB, wC, wFor, wAug, wAugL, wAugS, wTup, wLst, wLstC, wNot, wAnd, wOr, wAndV, wOrV, wIfE, wCall, wYes, wgName, wgTup, wgsCons, wgsNil, wgSub, wM, wFrz, wDGet, wDIn, wDPut, wDNew, wRevT, wSl, wPart, wNoPart, wWhile, wSKey, wLcM, wLcD, wLcDC, wIZipD, wISeqD, wFld, wSFld, wMeth, wMake, wLc2, wStepL, wipeE, startE, N__law_pot, List.map, List.length, List.cons_append, List.nil_append, List.append_nil, List.getElem?_cons_succ, List.getElem?_cons_zero, List.set_cons_succ, List.set_cons_zero, List.replicate, Nat.reduceAdd, Nat.reduceSub, if_true, if_false, Bool.false_eq_true, reduceIte, true_and, and_true]
    refine lc_all D.int (fun x : Int => D.int (if 0 ≤ x then x else 1 - 2 * x)) s (fun x hx acc R hacc hR => ?_) (by simp only [sizeLine]; omega) ?_
    · simp only [wRet, wRetN, wLc, wLcC, wIZip, wIEnum, wISeq, wIRng1, wIRng2, wCons, wVar, wNil, wSeq, wSet, wAsg, wPar, wIf, wTest, wNext, wDrop, wOp, wUn, wCB, wC, wFor, wAug, wAugL, wAugS, wTup, wLst, wLstC, wNot, wAnd, wOr, wAndV, wOrV, wIfE, wCall, wYes, wgName, wgTup, wgsCons, wgsNil, wgSub, wM, wFrz, wDGet, wDIn, wDPut, wDNew, wRevT, wSl, wPart, wNoPart, wWhile, wSKey, wLcM, wLcD, wLcDC, wIZipD, wISeqD, wFld, wSFld, wMeth, wMake, wLc2, wStepL, wipeE, startE, List.map, List.length, List.cons_append, List.nil_append, List.append_nil, List.getElem?_cons_succ, List.getElem?_cons_zero, List.set_cons_succ, List.set_cons_zero, List.replicate, Nat.reduceAdd, Nat.reduceSub, if_true, if_false, Bool.false_eq_true, reduceIte, true_and, and_true, roGe, roI0, coInt, roMul, roSub]
      by_cases hx : 0 ≤ x
      · rw [if_pos hx] at hR
        rw [if_pos (by simpa using hx)]
        exact ⟨hacc, hR⟩
      · rw [if_neg hx] at hR
        rw [if_neg (by simpa using hx)]
        exact ⟨mul_l (by decide) (by decide), hacc, hR⟩
    · have e : s.map (fun x : Int => D.int (if 0 ≤ x then x else 1 - 2 * x)) = (s.map fun x : Int => if 0 ≤ x then x else 1 - 2 * x).map D.int := by rw [List.map_map]; rfl
      rw [e]
      refine ⟨by decide, gc_id (hk _ (by simp) fun x hx => ?_)⟩
      obtain ⟨y, hy, rfl⟩ := List.mem_map.mp hx
      split <;> omega
def fsDraw : FS := fun ds μ k => ∃ (cells : List Int) (p1 p2 many : Int) (ν : Mem), ds = [.ref 1, .int many] ∧ μ = potM cells p1 p2 ν ∧ 0 < many ∧ many < 2 ^ 60 ∧ cells.length ≤ 1000000 ∧ 0 ≤ p2 ∧ p2 < 2 ^ 40 ∧ (∀ x ∈ cells, 0 ≤ x) ∧
  ∀ (x : Int) (cells' : List Int) (p1' : Int), 0 ≤ x → x < many → cells'.length = cells.length → (∀ x ∈ cells', 0 ≤ x) → k (.int x) (potM cells' p1' (p2 + 1) ν)
theorem c__law_draw (Z : Zs mg) (Df : DefW K mg "_law_draw" s__law_draw ["pot", "many"]) : CalW P w K mg base T 1 "_law_draw" fsDraw := by
  refine cal_w Df sc__law_draw (fun ds μ k h => ?_) (fun f cdv A outer s H E hr => ⟨_, (b_cons (s_set 2 sc__law_draw.nd (e_ix ix_seq ok_ix (e_var 0) e_int))
  (b_cons (s_augS (e_var 0) e_int e_int ip_add ok_ipadd)
  (b_cons (s_set 3 sc__law_draw.nd (e_if (t_cmp (op_eqA hr.units) ok_eq (e_var 2) (e_lst a_nil)) e_int (e_ix ix_seq ok_ix (e_var 2) (e_op op_modN ok_mod (e_callTy call_int1 ok_int rfl Z.z_int (by decide +kernel) (a_cons (e_ix ix_seq ok_ix (e_var 0) e_int) a_nil)) (e_callB cr_len ok_len rfl Z.z_len (by decide +kernel) (a_cons (e_var 2) a_nil))))))
  (b_cons (s_if (t_cmp op_ge ok_ge (e_var 3) (e_op op_pow ok_pow e_int e_int)) (b_cons (s_asg (e_op op_fdivZ ok_fdiv (e_var 3) (e_var 1)) (g_sub (e_var 2) (e_op op_modN ok_mod (e_callTy call_int1 ok_int rfl Z.z_int (by decide +kernel) (a_cons (e_ix ix_seq ok_ix (e_var 0) e_int) a_nil)) (e_callB cr_len ok_len rfl Z.z_len (by decide +kernel) (a_cons (e_var 2) a_nil))) set_list ok_setL))
  (b_one (s_ret (e_op op_modN ok_mod (e_callTy call_int1 ok_int rfl Z.z_int (by decide +kernel) (a_cons (e_var 3) a_nil)) (e_var 1))))) b_nil)
  (b_cons (s_augS (e_var 0) e_int e_int ip_add ok_ipadd)
  (b_cons (s_set 4 sc__law_draw.nd (e_op op_modN ok_mod (e_callTy call_int1 ok_int rfl Z.z_int (by decide +kernel) (a_cons (e_op op_addAll ok_add (e_op op_addAll ok_add (e_op op_addAll ok_add (e_op op_mulAll ok_mul (e_var 3) e_int) (e_op op_mulAll ok_mul (e_op op_mulAll ok_mul (e_ix ix_seq ok_ix (e_var 0) e_int) (e_ix ix_seq ok_ix (e_var 0) e_int)) e_int)) (e_op op_mulAll ok_mul (e_ix ix_seq ok_ix (e_var 0) e_int) e_int)) e_int) a_nil)) e_int))
  (b_cons (s_set 4 sc__law_draw.nd (e_op op_modN ok_mod (e_callTy call_int1 ok_int rfl Z.z_int (by decide +kernel) (a_cons (e_op op_addAll ok_add (e_op op_mulAll ok_mul (e_var 4) (e_var 4)) e_int) a_nil)) e_int))
  (b_one (s_ret (e_op op_modN ok_mod (e_callTy call_int1 ok_int rfl Z.z_int (by decide +kernel) (a_cons (e_op op_fdivZ ok_fdiv (e_var 4) e_int) a_nil)) (e_var 1))))))))))), ?_⟩)
  · obtain ⟨cells, p1, p2, many, ν, rfl, _⟩ := h
    rfl
  · intro ds μ k h
    obtain ⟨cells, p1, p2, many, ν, rfl, rfl, hm, hm2, hl, hp, hp2, hc, hk⟩ := h
    simp only [wRet, wRetN, wLc, wLcC, wIZip, wIEnum, wISeq, wIRng1, wIRng2, wCons, wVar, wNil, wSeq, wSet, wAsg, wPar, wIf, wTest, wNext, wDrop, wOp, wUn, wCB, wC, wFor, wAug, wAugL, wAugS, wTup, wLst, wLstC, wNot, wAnd, wOr, wAndV, wOrV, wIfE, wCall, wYes, wgName, wgTup, wgsCons, wgsNil, wgSub, wM, wFrz, wDGet, wDIn, wDPut, wDNew, wRevT, wSl, wPart, wNoPart, wWhile, wSKey, wLcM, wLcD, wLcDC, wIZipD, wISeqD, wFld, wSFld, wMeth, wMake, wLc2, wStepL, wipeE, startE, N__law_draw, List.map, List.length, List.cons_append, List.nil_append, List.append_nil, List.getElem?_cons_succ, List.getElem?_cons_zero, List.set_cons_succ, List.set_cons_zero, List.replicate, Nat.reduceAdd, Nat.reduceSub, if_true, if_false, Bool.false_eq_true, reduceIte, true_and, and_true, roIx, roIxL, lview, soSetL, atI, ixN, roI0]
    simp
    have tl : ∀ x : Int, (∀ y : Int, 0 ≤ y → y < many → gc (potM cells p1 p2 ν) k (.int y) (potM cells (p1 + 1) (p2 + 1) ν)) → (CDivZ ((x.fmod 2147483647 * x.fmod 2147483647 + 40692).fmod 2147483629) 7 ∧ many ≠ 0 ∧ gc (potM cells p1 p2 ν) k (.int ((((x.fmod 2147483647 * x.fmod 2147483647 + 40692).fmod 2147483629).fdiv 7).fmod many)) (potM cells (p1 + 1) (p2 + 1) ν)) := fun x hh =>
      ⟨⟨by decide, by decide⟩, by omega, hh _ (fmod_lo hm) (fmod_hi hm)⟩
    have fin : ∀ y : Int, 0 ≤ y → y < many → gc (potM cells p1 p2 ν) k (.int y) (potM cells (p1 + 1) (p2 + 1) ν) := fun y h1 h2 => gc_id (hk y cells (p1 + 1) h1 h2 rfl hc)
    have hmm : ∀ x : Int, IntMulOk (x.fmod 2147483647) (x.fmod 2147483647) := fun x => mul_l (by have := fmod_lo (a := x) (b := 2147483647) (by decide); omega) (by have := fmod_hi (a := x) (b := 2147483647) (by decide); omega)
    refine roEq_nilC (ds := cells.map D.int) rfl (sh_ints _) ?_
    by_cases he : cells = []
    · subst he
      simp only [List.map_nil, List.isEmpty_nil, if_true, roPow, roI, roGe, roI0]
      refine ⟨⟨by decide, by decide, by decide⟩, ?_⟩
      rw [if_neg (by decide)]
      simp only [roMul, roAdd, coInt, roMod, roI, roFdiv]
      exact ⟨mul_r (by decide) (by decide), mul_l (by omega) (by omega), mul_r (by decide) (by decide), mul_r (by decide) (by decide), by decide, hmm _, by decide, tl _ fin⟩
    · have hlen : 0 < cells.length := List.length_pos_iff.mpr he
      have hne : (List.map D.int cells).isEmpty = false := by cases cells with | nil => exact absurd rfl he | cons a l => rfl
      have hLp : (0 : Int) < (cells.length : Nat) := by omega
      obtain ⟨j, hj⟩ : ∃ j : Nat, p1.fmod (cells.length : Nat) = (j : Int) := ⟨(p1.fmod (cells.length : Nat)).toNat, by have := fmod_lo (a := p1) hLp; omega⟩
      have hjl : j < cells.length := by have := fmod_hi (a := p1) hLp; omega
      rw [hne]
      simp only [Bool.false_eq_true, if_false, coInt, coLen, lview, List.getElem?_cons_zero, List.length_map, roMod, roI, hj]
      refine ⟨by omega, ?_⟩
      have e1 : (0 : Int) ≤ (j : Int) := by omega
      have e2 : (j : Int) < (cells.length : Nat) := by omega
      simp only [e1, e2, if_true, Option.bind_some, Int.toNat_natCast, List.getElem?_map, List.getElem?_eq_getElem hjl, Option.map_some, roPow, roI, roGe, roI0]
      refine ⟨⟨by decide, by decide, by decide⟩, ?_⟩
      have hcell : 0 ≤ cells[j] := hc _ (List.getElem_mem hjl)
      by_cases hge : (10 : Int) ^ (18 : Int).toNat ≤ cells[j]
      · rw [if_pos (by simpa using hge)]
        simp only [roFdiv, roI, coInt, coLen, lview, List.getElem?_cons_zero, List.length_map, roMod, hj, e1, e2, if_true, Int.toNat_natCast, List.set_cons_zero]
        refine ⟨⟨by omega, ?_⟩, by omega, by omega, gc_id ?_⟩
        · have h60 : many.natAbs < 2 ^ 60 := by omega
          exact Nat.lt_of_lt_of_le (PySem.Flt.log2_lt_of (by decide) h60) (by decide)
        · have e3 : (cells.map D.int).set j (D.int (cells[j].fdiv many)) = (cells.set j (cells[j].fdiv many)).map D.int := by rw [List.map_set]
          rw [e3]
          refine hk _ (cells.set j (cells[j].fdiv many)) p1 (fmod_lo hm) (fmod_hi hm) (by simp) fun x hx => ?_
          rcases List.mem_or_eq_of_mem_set hx with h | h
          · exact hc x h
          · rw [h]
            exact Int.fdiv_nonneg hcell (by omega)
      · rw [if_neg (by simpa using hge)]
        simp only [roMul, roAdd, coInt, roMod, roI, roFdiv]
        exact ⟨mul_r (by decide) (by decide), mul_l (by omega) (by omega), mul_r (by decide) (by decide), mul_r (by decide) (by decide), by decide, hmm _, by decide, tl _ fin⟩
end
end K86
namespace K86
open PySem PySem.Spec L2 WL
/-! keeps, _law_keeps, _law_is_whole, _law_is_check, _law_box -/
def dotL (a b : List Int) : Int := (List.zipWith (fun x y => x * y) a b).sum
def keepsB (m : Int) (ns row : List Int) : Bool := if m = 0 then decide (dotL ns row = 0) else decide ((dotL ns row).fmod m = 0)
theorem zw_map2 (f : Int → Int → Int) (a b : List Int) : (List.zipWith f a b).map D.int = (List.zip a b).map fun p => D.int (f p.1 p.2) := by
  simp [List.zip, List.map_zipWith]
theorem dot_range {a b : List Int} (h : a.length = b.length) : ((List.range b.length).map fun i => a.getD i 0 * b.getD i 0) = List.zipWith (fun x y => x * y) a b := by
  apply List.ext_getElem
  · simp [h]
  · intro i h1 h2
    simp at h1
    simp [h1, h]
section
variable {P : Program} {w : World} {K : PySem.W.Frag} {mg : Str → Option Value} {base : Heap} {T : List (Addr × Str)} {c Pt : Addr}
def chkD (m : Int) (ns : List Int) : D := .tup [.int m, rowT ns]
def fsKeeps : FS := fun ds μ k => ∃ (m : Int) (ns row : List Int) (dr : D), ds = [chkD m ns, dr] ∧ seqR dr row ∧ ns.length = row.length ∧ row.length < 1000 ∧ (∀ x ∈ ns, ∀ y ∈ row, IntMulOk x y) ∧ k (.bl (keepsB m ns row)) μ
theorem sum_ints {μ : Mem} {d : D} {l : List Int} {k : D → Prop} (h : listArg μ [d] = some (l.map D.int)) (hk : k (.int l.sum)) : coSum μ [d] k := by
  simp only [coSum]
  rw [h]
  simp only [Option.bind, intsD_of]
  exact hk
theorem c_keeps (Z : Zs mg) (Df : DefW K mg "keeps" s_keeps ["check", "row"]) : CalW P w K mg base T 1 "keeps" fsKeeps := by
  refine cal_w Df sc_keeps (fun ds μ k h => ?_) (fun f cdv A outer s H E hr => ⟨_, (b_cons (s_set 2 sc_keeps.nd (e_callB (cr_sum rfl) ok_sum rfl Z.z_sum (by decide +kernel) (a_cons (e_lc rfl sc_keeps.nd (i_zip rfl Z.z_zip (a_cons (e_ix ix_seq ok_ix (e_var 0) e_int) (a_cons (e_var 1) a_nil))) (blkOk_by (N := N_keeps) (sc := defScope s_keeps) (own := [("number", 3), ("one", 4)]) (by decide +kernel)) (fun _ _ _ _ _ => (g_tup (n := 2) rfl (gs_cons (g_name 3 sc_keeps.nd) (gs_cons (g_name 4 sc_keeps.nd) gs_nil)))) (fun _ _ _ _ _ => ts_nil) (fun _ _ _ _ _ => (e_op op_mulAll ok_mul (e_var 3) (e_var 4)))) a_nil)))
  (b_one (s_ret (e_if (t_cmp (op_eqA hr.units) ok_eq (e_ix ix_seq ok_ix (e_var 0) e_int) e_int) (e_cmp (op_eqA hr.units) ok_eq (e_var 2) e_int) (e_cmp (op_eqA hr.units) ok_eq (e_op op_modN ok_mod (e_var 2) (e_ix ix_seq ok_ix (e_var 0) e_int)) e_int))))), ?_⟩)
  · obtain ⟨m, ns, row, dr, rfl, _⟩ := h
    rfl
  · intro ds μ k h
    obtain ⟨m, ns, row, dr, rfl, h1, h2, h3, h4, h5⟩ := h
    simp only [wRet, wRetN, wLc, wLcC, wIZip, wIEnum, wISeq, wIRng1, wIRng2, wCons, wVar, wNil, wSeq, wSet, wAsg, wPar, wIf, wTest, wNext, wDrop, wOp, wUn, wCB, wC, wFor, wAug, wAugL, wAugS, wTup, wLst, wLstC, wNot, wAnd, wOr, wAndV, wOrV, wIfE, wCall, wYes, wgName, wgTup, wgsCons, wgsNil, wgSub, wM, wFrz, wDGet, wDIn, wDPut, wDNew, wRevT, wSl, wPart, wNoPart, wWhile, wSKey, wLcM, wLcD, wLcDC, wIZipD, wISeqD, wFld, wSFld, wMeth, wMake, wLc2, wStepL, wipeE, startE, N_keeps, List.map, List.length, List.cons_append, List.nil_append, List.append_nil, List.getElem?_cons_succ, List.getElem?_cons_zero, List.set_cons_succ, List.set_cons_zero, List.replicate, Nat.reduceAdd, Nat.reduceSub, if_true, if_false, Bool.false_eq_true, reduceIte, true_and, and_true]
    refine roIx_at (p := 1) (ds := [.int m, rowT ns]) (x := rowT ns) rfl rfl ?_
    rw [seqR_T ns, h1]
    show wLcL _ _ _ _ _ (List.zipWith _ _ _) _ _
    rw [zw_map]
    refine lc_all _ (fun p : Int × Int => D.int (p.1 * p.2)) _ (fun a ha acc R hacc hR => ?_) ?_ ?_
    · have hx := h4 a.1 (List.of_mem_zip ha).1 a.2 (List.of_mem_zip ha).2
      simp only [wRet, wRetN, wLc, wLcC, wIZip, wIEnum, wISeq, wIRng1, wIRng2, wCons, wVar, wNil, wSeq, wSet, wAsg, wPar, wIf, wTest, wNext, wDrop, wOp, wUn, wCB, wC, wFor, wAug, wAugL, wAugS, wTup, wLst, wLstC, wNot, wAnd, wOr, wAndV, wOrV, wIfE, wCall, wYes, wgName, wgTup, wgsCons, wgsNil, wgSub, wM, wFrz, wDGet, wDIn, wDPut, wDNew, wRevT, wSl, wPart, wNoPart, wWhile, wSKey, wLcM, wLcD, wLcDC, wIZipD, wISeqD, wFld, wSFld, wMeth, wMake, wLc2, wStepL, wipeE, startE, List.map, List.length, List.cons_append, List.nil_append, List.append_nil, List.getElem?_cons_succ, List.getElem?_cons_zero, List.set_cons_succ, List.set_cons_zero, List.replicate, Nat.reduceAdd, Nat.reduceSub, if_true, if_false, Bool.false_eq_true, reduceIte, true_and, and_true, roMul]
      exact ⟨hx, hacc, hR⟩
    · simp only [List.length_zip, sizeLine]; omega
    · refine sum_ints (l := List.zipWith (fun x y => x * y) ns row) ?_ ?_
      · rw [zw_map2]; rfl
      · refine roIx_at (p := 0) (ds := [.int m, rowT ns]) (x := .int m) rfl rfl ?_
        have e : (List.zipWith (fun x y => x * y) ns row).sum = dotL ns row := rfl
        rw [e]
        unfold keepsB at h5
        by_cases hm : m = 0
        · rw [if_pos hm] at h5
          simp only [roEq, hm, decide_true, List.map, List.length, List.cons_append, List.nil_append, List.append_nil, List.getElem?_cons_succ, List.getElem?_cons_zero, List.set_cons_succ, List.set_cons_zero, List.replicate, Nat.reduceAdd, Nat.reduceSub, if_true, if_false, Bool.false_eq_true, reduceIte, true_and, and_true]
          exact gc_id h5
        · rw [if_neg hm] at h5
          simp only [roEq, hm, decide_false, List.map, List.length, List.cons_append, List.nil_append, List.append_nil, List.getElem?_cons_succ, List.getElem?_cons_zero, List.set_cons_succ, List.set_cons_zero, List.replicate, Nat.reduceAdd, Nat.reduceSub, if_true, if_false, Bool.false_eq_true, reduceIte, true_and, and_true]
          refine roIx_at (p := 0) (ds := [.int m, rowT ns]) (x := .int m) rfl rfl ?_
          simp only [roMod, roI, roEq]
          exact ⟨hm, gc_id h5⟩
theorem c__law_keeps (Z : Zs mg) (Df : DefW K mg "_law_keeps" s__law_keeps ["check", "row"]) : CalW P w K mg base T 1 "_law_keeps" fsKeeps := by
  refine cal_w Df sc__law_keeps (fun ds μ k h => ?_) (fun f cdv A outer s H E hr => ⟨_, (b_cons (s_set 2 sc__law_keeps.nd (e_callB (cr_sum rfl) ok_sum rfl Z.z_sum (by decide +kernel) (a_cons (e_lc rfl sc__law_keeps.nd (i_rng1 rfl Z.z_range (a_cons (e_callB cr_len ok_len rfl Z.z_len (by decide +kernel) (a_cons (e_var 1) a_nil)) a_nil)) (blkOk_by (N := N__law_keeps) (sc := defScope s__law_keeps) (own := [("k", 3)]) (by decide +kernel)) (fun _ _ _ _ _ => (g_name 3 sc__law_keeps.nd)) (fun _ _ _ _ _ => ts_nil) (fun _ _ _ _ _ => (e_op op_mulAll ok_mul (e_ix ix_seq ok_ix (e_ix ix_seq ok_ix (e_var 0) e_int) (e_var 3)) (e_ix ix_seq ok_ix (e_var 1) (e_var 3))))) a_nil)))
  (b_one (s_ret (e_if (t_cmp (op_eqA hr.units) ok_eq (e_ix ix_seq ok_ix (e_var 0) e_int) e_int) (e_cmp (op_eqA hr.units) ok_eq (e_var 2) e_int) (e_cmp (op_eqA hr.units) ok_eq (e_op op_modN ok_mod (e_callTy call_int1 ok_int rfl Z.z_int (by decide +kernel) (a_cons (e_var 2) a_nil)) (e_ix ix_seq ok_ix (e_var 0) e_int)) e_int))))), ?_⟩)
  · obtain ⟨m, ns, row, dr, rfl, _⟩ := h
    rfl
  · intro ds μ k h
    obtain ⟨m, ns, row, dr, rfl, h1, h2, h3, h4, h5⟩ := h
    simp only [wRet, wRetN, wLc, wLcC, wIZip, wIEnum, wISeq, wIRng1, wIRng2, wCons, wVar, wNil, wSeq, wSet, wAsg, wPar, wIf, wTest, wNext, wDrop, wOp, wUn, wCB, wC, wFor, wAug, wAugL, wAugS, wTup, wLst, wLstC, wNot, wAnd, wOr, wAndV, wOrV, wIfE, wCall, wYes, wgName, wgTup, wgsCons, wgsNil, wgSub, wM, wFrz, wDGet, wDIn, wDPut, wDNew, wRevT, wSl, wPart, wNoPart, wWhile, wSKey, wLcM, wLcD, wLcDC, wIZipD, wISeqD, wFld, wSFld, wMeth, wMake, wLc2, wStepL, wipeE, startE, N__law_keeps, List.map, List.length, List.cons_append, List.nil_append, List.append_nil, List.getElem?_cons_succ, List.getElem?_cons_zero, List.set_cons_succ, List.set_cons_zero, List.replicate, Nat.reduceAdd, Nat.reduceSub, if_true, if_false, Bool.false_eq_true, reduceIte, true_and, and_true]
    refine len_row h1 ⟨by omega, by omega, ?_⟩
    rw [rng_to]
    refine lc_all _ (fun i => D.int (ns.getD i 0 * row.getD i 0)) _ (fun a ha acc R hacc hR => ?_) ?_ ?_
    · have ha : a < row.length := List.mem_range.mp ha
      simp only [wRet, wRetN, wLc, wLcC, wIZip, wIEnum, wISeq, wIRng1, wIRng2, wCons, wVar, wNil, wSeq, wSet, wAsg, wPar, wIf, wTest, wNext, wDrop, wOp, wUn, wCB, wC, wFor, wAug, wAugL, wAugS, wTup, wLst, wLstC, wNot, wAnd, wOr, wAndV, wOrV, wIfE, wCall, wYes, wgName, wgTup, wgsCons, wgsNil, wgSub, wM, wFrz, wDGet, wDIn, wDPut, wDNew, wRevT, wSl, wPart, wNoPart, wWhile, wSKey, wLcM, wLcD, wLcDC, wIZipD, wISeqD, wFld, wSFld, wMeth, wMake, wLc2, wStepL, wipeE, startE, List.map, List.length, List.cons_append, List.nil_append, List.append_nil, List.getElem?_cons_succ, List.getElem?_cons_zero, List.set_cons_succ, List.set_cons_zero, List.replicate, Nat.reduceAdd, Nat.reduceSub, if_true, if_false, Bool.false_eq_true, reduceIte, true_and, and_true, roMul]
      refine roIx_at (p := 1) (ds := [.int m, rowT ns]) (x := rowT ns) rfl rfl ?_
      refine roIx_row (seqR_T ns) (h2 ▸ ha) (roIx_row h1 ha ⟨h4 _ ?_ _ ?_, hacc, hR⟩)
      · simp [h2 ▸ ha]
      · simp [ha]
    · simp only [List.length_range, sizeLine]; omega
    · refine sum_ints (l := List.zipWith (fun x y => x * y) ns row) ?_ ?_
      · rw [← dot_range h2, List.map_map]; rfl
      · refine roIx_at (p := 0) (ds := [.int m, rowT ns]) (x := .int m) rfl rfl ?_
        have e : (List.zipWith (fun x y => x * y) ns row).sum = dotL ns row := rfl
        rw [e]
        unfold keepsB at h5
        by_cases hm : m = 0
        · rw [if_pos hm] at h5
          simp only [roEq, hm, decide_true, List.map, List.length, List.cons_append, List.nil_append, List.append_nil, List.getElem?_cons_succ, List.getElem?_cons_zero, List.set_cons_succ, List.set_cons_zero, List.replicate, Nat.reduceAdd, Nat.reduceSub, if_true, if_false, Bool.false_eq_true, reduceIte, true_and, and_true]
          exact gc_id h5
        · rw [if_neg hm] at h5
          simp only [roEq, hm, decide_false, coInt, List.map, List.length, List.cons_append, List.nil_append, List.append_nil, List.getElem?_cons_succ, List.getElem?_cons_zero, List.set_cons_succ, List.set_cons_zero, List.replicate, Nat.reduceAdd, Nat.reduceSub, if_true, if_false, Bool.false_eq_true, reduceIte, true_and, and_true]
          refine roIx_at (p := 0) (ds := [.int m, rowT ns]) (x := .int m) rfl rfl ?_
          simp only [roMod, roI, roEq]
          exact ⟨hm, gc_id h5⟩
/-! a check looks like one -/
def fsWhole : FS := fun ds μ k => ∃ i : Int, ds = [.int i] ∧ k (.bl true) μ
theorem c__law_is_whole (Z : Zs mg) (Df : DefW K mg "_law_is_whole" s__law_is_whole ["value"]) : CalW P w K mg base T 1 "_law_is_whole" fsWhole := by
  refine cal_w Df sc__law_is_whole (fun ds μ k h => ?_) (fun f cdv A outer s H E hr => ⟨_, (b_one (s_ret (e_and (e_callB call_isi ok_isi rfl Z.z_isinstance (by decide +kernel) (a_cons (e_var 0) (a_cons (e_bty (n := "int") rfl Z.z_int (by decide +kernel)) a_nil))) (e_one (e_not (e_callB call_isi ok_isi rfl Z.z_isinstance (by decide +kernel) (a_cons (e_var 0) (a_cons (e_bty (n := "bool") rfl Z.z_bool (by decide +kernel)) a_nil)))))))), ?_⟩)
  · obtain ⟨i, rfl, _⟩ := h
    rfl
  · intro ds μ k h
    obtain ⟨i, rfl, h5⟩ := h
    simp only [wRet, wRetN, wLc, wLcC, wIZip, wIEnum, wISeq, wIRng1, wIRng2, wCons, wVar, wNil, wSeq, wSet, wAsg, wPar, wIf, wTest, wNext, wDrop, wOp, wUn, wCB, wC, wFor, wAug, wAugL, wAugS, wTup, wLst, wLstC, wNot, wAnd, wOr, wAndV, wOrV, wIfE, wCall, wYes, wgName, wgTup, wgsCons, wgsNil, wgSub, wM, wFrz, wDGet, wDIn, wDPut, wDNew, wRevT, wSl, wPart, wNoPart, wWhile, wSKey, wLcM, wLcD, wLcDC, wIZipD, wISeqD, wFld, wSFld, wMeth, wMake, wLc2, wStepL, wipeE, startE, N__law_is_whole, List.map, List.length, List.cons_append, List.nil_append, List.append_nil, List.getElem?_cons_succ, List.getElem?_cons_zero, List.set_cons_succ, List.set_cons_zero, List.replicate, Nat.reduceAdd, Nat.reduceSub, if_true, if_false, Bool.false_eq_true, reduceIte, true_and, and_true]
    simp only [coIsi, tyName, kitB, List.map, List.length, List.cons_append, List.nil_append, List.append_nil, List.getElem?_cons_succ, List.getElem?_cons_zero, List.set_cons_succ, List.set_cons_zero, List.replicate, Nat.reduceAdd, Nat.reduceSub, if_true, if_false, Bool.false_eq_true, reduceIte, true_and, and_true]
    exact gc_id h5
def fsIsCheck : FS := fun ds μ k => ∃ (m : Int) (ns : List Int) (n : Nat), ds = [chkD m ns, .int (n : Nat)] ∧ 0 ≤ m ∧ m ≠ 1 ∧ ns.length = n ∧ n < 1000 ∧ k (.bl true) μ
theorem c__law_is_check (Z : Zs mg) (Df : DefW K mg "_law_is_check" s__law_is_check ["value", "width"]) (C__law_is_whole : CalW P w K mg base T 1 "_law_is_whole" fsWhole) : CalW P w K mg base T 2 "_law_is_check" fsIsCheck := by
  refine cal_w Df sc__law_is_check (fun ds μ k h => ?_) (fun f cdv A outer s H E hr => ⟨_, (b_cons (s_if (t_pw (p_or (t_not (t_val (e_callB call_isi ok_isi rfl Z.z_isinstance (by decide +kernel) (a_cons (e_var 0) (a_cons (e_bty (n := "tuple") rfl Z.z_tuple (by decide +kernel)) a_nil))))) (p_or (t_cmp (op_neA hr.units) ok_ne (e_callB cr_len ok_len rfl Z.z_len (by decide +kernel) (a_cons (e_var 0) a_nil)) e_int) (p_or (t_not (t_val (e_c C__law_is_whole hr (by decide) rfl (a_cons (e_ix ix_seq ok_ix (e_var 0) e_int) a_nil)))) (p_or (t_cmp op_lt ok_lt (e_ix ix_seq ok_ix (e_var 0) e_int) e_int) (p_or1 (t_cmp (op_eqA hr.units) ok_eq (e_ix ix_seq ok_ix (e_var 0) e_int) e_int))))))) (b_one (s_ret e_bl)) b_nil)
  (b_one (s_ret (e_and (e_callB call_isi ok_isi rfl Z.z_isinstance (by decide +kernel) (a_cons (e_ix ix_seq ok_ix (e_var 0) e_int) (a_cons (e_bty (n := "tuple") rfl Z.z_tuple (by decide +kernel)) a_nil))) (e_and (e_cmp (op_eqA hr.units) ok_eq (e_callB cr_len ok_len rfl Z.z_len (by decide +kernel) (a_cons (e_ix ix_seq ok_ix (e_var 0) e_int) a_nil)) (e_var 1)) (e_one (e_callB (cr_all rfl) ok_all rfl Z.z_all (by decide +kernel) (a_cons (e_lc rfl sc__law_is_check.nd (i_seq (e_ix ix_seq ok_ix (e_var 0) e_int)) (blkOk_by (N := N__law_is_check) (sc := defScope s__law_is_check) (own := [("one", 2)]) (by decide +kernel)) (fun _ _ _ _ _ => (g_name 2 sc__law_is_check.nd)) (fun _ _ _ _ _ => ts_nil) (fun _ _ _ _ _ => (e_c C__law_is_whole hr (by decide) rfl (a_cons (e_var 2) a_nil)))) a_nil)))))))), ?_⟩)
  · obtain ⟨m, ns, n, rfl, _⟩ := h
    rfl
  · intro ds μ k h
    obtain ⟨m, ns, n, rfl, h1, h2, h3, h4, h5⟩ := h
    simp only [wRet, wRetN, wLc, wLcC, wIZip, wIEnum, wISeq, wIRng1, wIRng2, wCons, wVar, wNil, wSeq, wSet, wAsg, wPar, wIf, wTest, wNext, wDrop, wOp, wUn, wCB, wC, wFor, wAug, wAugL, wAugS, wTup, wLst, wLstC, wNot, wAnd, wOr, wAndV, wOrV, wIfE, wCall, wYes, wgName, wgTup, wgsCons, wgsNil, wgSub, wM, wFrz, wDGet, wDIn, wDPut, wDNew, wRevT, wSl, wPart, wNoPart, wWhile, wSKey, wLcM, wLcD, wLcDC, wIZipD, wISeqD, wFld, wSFld, wMeth, wMake, wLc2, wStepL, wipeE, startE, N__law_is_check, List.map, List.length, List.cons_append, List.nil_append, List.append_nil, List.getElem?_cons_succ, List.getElem?_cons_zero, List.set_cons_succ, List.set_cons_zero, List.replicate, Nat.reduceAdd, Nat.reduceSub, if_true, if_false, Bool.false_eq_true, reduceIte, true_and, and_true]
    have g0 : ∀ {k : D → Prop}, k (.int m) → roIx μ (chkD m ns) (.int 0) k := fun hk => roIx_at (p := 0) (ds := [.int m, rowT ns]) (x := .int m) rfl rfl hk
    have g1 : ∀ {k : D → Prop}, k (rowT ns) → roIx μ (chkD m ns) (.int 1) k := fun hk => roIx_at (p := 1) (ds := [.int m, rowT ns]) (x := rowT ns) rfl rfl hk
    have e1 : tyName μ (chkD m ns) = some "tuple" := rfl
    have e2 : tyName μ (rowT ns) = some "tuple" := rfl
    have e3 : ∀ {k : D → Prop}, k (.int (ns.length : Nat)) → coLen μ [rowT ns] k := fun hk => len_row (seqR_T ns) hk
    have kt : kitB "tuple" "tuple" = some true := by first | rfl | decide +kernel
    have q0 : ¬ (m < 0) := by omega
    simp only [coIsi, e1, kt, List.map, List.length, List.cons_append, List.nil_append, List.append_nil, List.getElem?_cons_succ, List.getElem?_cons_zero, List.set_cons_succ, List.set_cons_zero, List.replicate, Nat.reduceAdd, Nat.reduceSub, if_true, if_false, Bool.false_eq_true, reduceIte, true_and, and_true, Bool.not_true]
    refine len_seq (ds := [.int m, rowT ns]) rfl ?_
    simp only [roNe, List.length]
    have q2 : (!decide (((2 : Nat) : Int) = 2)) = false := rfl
    simp only [q2, List.map, List.length, List.cons_append, List.nil_append, List.append_nil, List.getElem?_cons_succ, List.getElem?_cons_zero, List.set_cons_succ, List.set_cons_zero, List.replicate, Nat.reduceAdd, Nat.reduceSub, if_true, if_false, Bool.false_eq_true, reduceIte, true_and, and_true]
    refine g0 ?_
    refine ⟨m, rfl, ?_⟩
    simp only [List.map, List.length, List.cons_append, List.nil_append, List.append_nil, List.getElem?_cons_succ, List.getElem?_cons_zero, List.set_cons_succ, List.set_cons_zero, List.replicate, Nat.reduceAdd, Nat.reduceSub, if_true, if_false, Bool.false_eq_true, reduceIte, true_and, and_true, Bool.not_true]
    refine g0 ?_
    simp only [roLt, roI0, q0, decide_false, List.map, List.length, List.cons_append, List.nil_append, List.append_nil, List.getElem?_cons_succ, List.getElem?_cons_zero, List.set_cons_succ, List.set_cons_zero, List.replicate, Nat.reduceAdd, Nat.reduceSub, if_true, if_false, Bool.false_eq_true, reduceIte, true_and, and_true]
    refine g0 ?_
    simp only [roEq, h2, decide_false, List.map, List.length, List.cons_append, List.nil_append, List.append_nil, List.getElem?_cons_succ, List.getElem?_cons_zero, List.set_cons_succ, List.set_cons_zero, List.replicate, Nat.reduceAdd, Nat.reduceSub, if_true, if_false, Bool.false_eq_true, reduceIte, true_and, and_true]
    refine g1 ?_
    simp only [e2, kt, List.map, List.length, List.cons_append, List.nil_append, List.append_nil, List.getElem?_cons_succ, List.getElem?_cons_zero, List.set_cons_succ, List.set_cons_zero, List.replicate, Nat.reduceAdd, Nat.reduceSub, if_true, if_false, Bool.false_eq_true, reduceIte, true_and, and_true]
    refine g1 (e3 ?_)
    simp only [roEq, h3, decide_true, List.map, List.length, List.cons_append, List.nil_append, List.append_nil, List.getElem?_cons_succ, List.getElem?_cons_zero, List.set_cons_succ, List.set_cons_zero, List.replicate, Nat.reduceAdd, Nat.reduceSub, if_true, if_false, Bool.false_eq_true, reduceIte, true_and, and_true]
    refine g1 ?_
    show wLcL _ _ _ _ _ (ns.map D.int) _ _
    refine lc_all D.int (fun _ => D.bl true) ns (fun a ha acc R hacc hR => ?_) (by simp only [sizeLine]; omega) ?_
    · simp only [wRet, wRetN, wLc, wLcC, wIZip, wIEnum, wISeq, wIRng1, wIRng2, wCons, wVar, wNil, wSeq, wSet, wAsg, wPar, wIf, wTest, wNext, wDrop, wOp, wUn, wCB, wC, wFor, wAug, wAugL, wAugS, wTup, wLst, wLstC, wNot, wAnd, wOr, wAndV, wOrV, wIfE, wCall, wYes, wgName, wgTup, wgsCons, wgsNil, wgSub, wM, wFrz, wDGet, wDIn, wDPut, wDNew, wRevT, wSl, wPart, wNoPart, wWhile, wSKey, wLcM, wLcD, wLcDC, wIZipD, wISeqD, wFld, wSFld, wMeth, wMake, wLc2, wStepL, wipeE, startE, List.map, List.length, List.cons_append, List.nil_append, List.append_nil, List.getElem?_cons_succ, List.getElem?_cons_zero, List.set_cons_succ, List.set_cons_zero, List.replicate, Nat.reduceAdd, Nat.reduceSub, if_true, if_false, Bool.false_eq_true, reduceIte, true_and, and_true]
      exact ⟨a, rfl, hacc, hR⟩
    · have e : ns.map (fun _ => D.bl true) = (ns.map fun _ => true).map D.bl := by rw [List.map_map]; rfl
      have e9 : blsD ((ns.map fun _ => true).map D.bl) = some (ns.map fun _ => true) := blsD_map _
      rw [e]
      simp only [coAll, listArg, lview, Option.bind, e9]
      have e8 : (ns.map fun _ => true).all id = true := by simp
      rw [e8]
      exact gc_id h5
def boxS (l : List (List Int)) : List (List Int) := l.flatMap fun r => (List.range 11).map fun i : Nat => r ++ [(i : Int) - 5]
def boxL : Nat → List (List Int)
  | 0 => [[]]
  | k + 1 => boxS (boxL k)
theorem boxS_length : ∀ l, (boxS l).length = l.length * 11
  | [] => rfl
  | a :: l => by
    have ih := boxS_length l
    unfold boxS at ih ⊢
    rw [List.flatMap_cons, List.length_append, ih]
    simp
    omega
theorem boxL_row : ∀ k, ∀ r ∈ boxL k, r.length = k
  | 0, r, h => by
    have : r = [] := by simpa [boxL] using h
    rw [this]; rfl
  | k + 1, r, h => by
    have h : r ∈ (boxL k).flatMap fun r => (List.range 11).map fun i : Nat => r ++ [(i : Int) - 5] := h
    rw [List.mem_flatMap] at h
    obtain ⟨q, hq, h⟩ := h
    rw [List.mem_map] at h
    obtain ⟨i, _, rfl⟩ := h
    rw [List.length_append, boxL_row k q hq]; rfl
theorem lo_rowTs (n : Nat) : ∀ l : List (List Int), loL n (l.map rowT) = true
  | [] => rfl
  | r :: l => by
    show ((rowT r).lo n && loL n (l.map rowT)) = true
    rw [lo_rowTs n l, Bool.and_true]
    show loL n (r.map D.int) = true
    exact lo_ints n r
theorem boxL_length : ∀ k, (boxL k).length = 11 ^ k
  | 0 => rfl
  | k + 1 => by rw [boxL, boxS_length, boxL_length k, Nat.pow_succ]
def fsBox : FS := fun ds μ k => ∃ (n : Nat), ds = [.int (n : Nat)] ∧ n ≤ 3 ∧ k (.lst ((boxL n).map rowT)) μ
theorem c__law_box (Z : Zs mg) (Df : DefW K mg "_law_box" s__law_box ["width"]) : CalW P w K mg base T 1 "_law_box" fsBox := by
  refine cal_w Df sc__law_box (fun ds μ k h => ?_) (fun f cdv A outer s H E hr => ⟨_, (b_cons (s_set 1 sc__law_box.nd (e_lst (a_cons (e_tup a_nil) a_nil)))
  (b_cons (s_for PySem.PassesOwn.never rfl (i_rng1 rfl Z.z_range (a_cons (e_var 0) a_nil)) (g_name 2 sc__law_box.nd) (b_cons (s_set 3 sc__law_box.nd (e_lstC a_nil))
  (b_cons (s_for PySem.PassesOwn.never rfl (i_seq (e_var 1)) (g_name 4 sc__law_box.nd) (b_one (s_expr (e_bm PySem.F.plainAttrs_list PySem.F.slot_list_extend PySem.F.type_list_extend mt_extend ok_extend (e_var 3) (a_cons (e_lc rfl sc__law_box.nd (i_rng2 rfl Z.z_range (a_cons (e_un un_neg ok_neg e_int) (a_cons e_int a_nil))) (blkOk_by (N := N__law_box) (sc := defScope s__law_box) (own := [("number", 5)]) (by decide +kernel)) (fun _ _ _ _ _ => (g_name 5 sc__law_box.nd)) (fun _ _ _ _ _ => ts_nil) (fun _ _ _ _ _ => (e_op op_addAll ok_add (e_var 4) (e_tup (a_cons (e_var 5) a_nil))))) a_nil)))))
  (b_one (s_set 1 sc__law_box.nd (e_frz 3))))))
  (b_one (s_ret (e_var 1))))), ?_⟩)
  · obtain ⟨n, rfl, _⟩ := h
    rfl
  · intro ds μ k h
    obtain ⟨n, rfl, h1, h5⟩ := h
    simp only [wRet, wRetN, wLc, wLcC, wIZip, wIEnum, wISeq, wIRng1, wIRng2, wCons, wVar, wNil, wSeq, wSet, wAsg, wPar, wIf, wTest, wNext, wDrop, wOp, wUn, wCB, wC, wFor, wAug, wAugL, wAugS, wTup, wLst, wLstC, wNot, wAnd, wOr, wAndV, wOrV, wIfE, wCall, wYes, wgName, wgTup, wgsCons, wgsNil, wgSub, wM, wFrz, wDGet, wDIn, wDPut, wDNew, wRevT, wSl, wPart, wNoPart, wWhile, wSKey, wLcM, wLcD, wLcDC, wIZipD, wISeqD, wFld, wSFld, wMeth, wMake, wLc2, wStepL, wipeE, startE, N__law_box, List.map, List.length, List.cons_append, List.nil_append, List.append_nil, List.getElem?_cons_succ, List.getElem?_cons_zero, List.set_cons_succ, List.set_cons_zero, List.replicate, Nat.reduceAdd, Nat.reduceSub, if_true, if_false, Bool.false_eq_true, reduceIte, true_and, and_true]
    refine ⟨by decide, by decide, by omega, by omega, ?_⟩
    rw [rng_to]
    refine WL.for_range _ _ (fun i ε μ' => (∃ ν, μ' = μ ++ ν) ∧ ∃ o2 o3 o4 o5, ε = [some (D.int (n : Nat)), some (D.lst ((boxL i).map rowT)), o2, o3, o4, o5]) (fun i ε μ' k' hi hJ hk' => ?_) (fun ε μ' hJ => ?_) ⟨⟨[], (List.append_nil μ).symm⟩, _, _, _, _, rfl⟩
    · obtain ⟨⟨ν, rfl⟩, o2, o3, o4, o5, rfl⟩ := hJ
      simp only [wRet, wRetN, wLc, wLcC, wIZip, wIEnum, wISeq, wIRng1, wIRng2, wCons, wVar, wNil, wSeq, wSet, wAsg, wPar, wIf, wTest, wNext, wDrop, wOp, wUn, wCB, wC, wFor, wAug, wAugL, wAugS, wTup, wLst, wLstC, wNot, wAnd, wOr, wAndV, wOrV, wIfE, wCall, wYes, wgName, wgTup, wgsCons, wgsNil, wgSub, wM, wFrz, wDGet, wDIn, wDPut, wDNew, wRevT, wSl, wPart, wNoPart, wWhile, wSKey, wLcM, wLcD, wLcDC, wIZipD, wISeqD, wFld, wSFld, wMeth, wMake, wLc2, wStepL, wipeE, startE, List.map, List.length, List.cons_append, List.nil_append, List.append_nil, List.getElem?_cons_succ, List.getElem?_cons_zero, List.set_cons_succ, List.set_cons_zero, List.replicate, Nat.reduceAdd, Nat.reduceSub, if_true, if_false, Bool.false_eq_true, reduceIte, true_and, and_true]
      refine ⟨by decide, ?_⟩
      refine for_list rowT (boxL i) (fun j ε μ' => μ' = μ ++ ν ++ [Cell.lst ((boxS ((boxL i).take j)).map rowT)] ∧ ∃ o2 o4 o5, ε = [some (D.int (n : Nat)), some (D.lst ((boxL i).map rowT)), o2, some (D.ref (μ ++ ν).length), o4, o5]) (fun j row ε μ' k2 hj hJ hk2 => ?_) (fun ε μ' hJ => ?_) ⟨rfl, _, _, _, rfl⟩
      · obtain ⟨rfl, o2, o4, o5, rfl⟩ := hJ
        simp only [wRet, wRetN, wLc, wLcC, wIZip, wIEnum, wISeq, wIRng1, wIRng2, wCons, wVar, wNil, wSeq, wSet, wAsg, wPar, wIf, wTest, wNext, wDrop, wOp, wUn, wCB, wC, wFor, wAug, wAugL, wAugS, wTup, wLst, wLstC, wNot, wAnd, wOr, wAndV, wOrV, wIfE, wCall, wYes, wgName, wgTup, wgsCons, wgsNil, wgSub, wM, wFrz, wDGet, wDIn, wDPut, wDNew, wRevT, wSl, wPart, wNoPart, wWhile, wSKey, wLcM, wLcD, wLcDC, wIZipD, wISeqD, wFld, wSFld, wMeth, wMake, wLc2, wStepL, wipeE, startE, List.map, List.length, List.cons_append, List.nil_append, List.append_nil, List.getElem?_cons_succ, List.getElem?_cons_zero, List.set_cons_succ, List.set_cons_zero, List.replicate, Nat.reduceAdd, Nat.reduceSub, if_true, if_false, Bool.false_eq_true, reduceIte, true_and, and_true, uoNeg]
        have hm : (μ ++ ν ++ [Cell.lst ((boxS ((boxL i).take j)).map rowT)])[(μ ++ ν).length]? = some (Cell.lst ((boxS ((boxL i).take j)).map rowT)) := List.getElem?_concat_length
        refine ⟨by simp only [tyM, tyName, hm]; rfl, ?_⟩
        refine ⟨⟨by decide, by decide, by decide, by decide⟩, ?_⟩
        have e11 : ((6 : Int) - -5).toNat = 11 := rfl
        rw [e11]
        refine lc_all (fun i : Nat => D.int (-5 + (i : Int))) (fun i : Nat => rowT (row ++ [(i : Int) - 5])) (List.range 11) (fun a ha acc R hacc hR => ?_) (by decide) ?_
        · simp only [wRet, wRetN, wLc, wLcC, wIZip, wIEnum, wISeq, wIRng1, wIRng2, wCons, wVar, wNil, wSeq, wSet, wAsg, wPar, wIf, wTest, wNext, wDrop, wOp, wUn, wCB, wC, wFor, wAug, wAugL, wAugS, wTup, wLst, wLstC, wNot, wAnd, wOr, wAndV, wOrV, wIfE, wCall, wYes, wgName, wgTup, wgsCons, wgsNil, wgSub, wM, wFrz, wDGet, wDIn, wDPut, wDNew, wRevT, wSl, wPart, wNoPart, wWhile, wSKey, wLcM, wLcD, wLcDC, wIZipD, wISeqD, wFld, wSFld, wMeth, wMake, wLc2, wStepL, wipeE, startE, List.map, List.length, List.cons_append, List.nil_append, List.append_nil, List.getElem?_cons_succ, List.getElem?_cons_zero, List.set_cons_succ, List.set_cons_zero, List.replicate, Nat.reduceAdd, Nat.reduceSub, if_true, if_false, Bool.false_eq_true, reduceIte, true_and, and_true]
          have hr := boxL_row i row (List.mem_of_getElem? hj)
          have e5 : (-5 + (a : Int)) = (a : Int) - 5 := by omega
          refine ⟨by decide, ?_⟩
          rw [e5]
          show _ + _ ≤ _ ∧ _
          refine ⟨by simp only [List.length_map, sizeLine, List.length]; omega, hacc, ?_⟩
          have e6 : D.tup (row.map D.int ++ [D.int ((a : Int) - 5)]) = rowT (row ++ [(a : Int) - 5]) := by simp [rowT]
          rw [e6]
          exact hR
        · simp only [moExtend, hm, lviewM, lview]
          have hjl : j < (boxL i).length := (List.getElem?_eq_some_iff.mp hj).1
          have hb : (boxL i).length ≤ 121 := by
            rw [boxL_length]
            have : i ≤ 2 := by omega
            rcases (show i = 0 ∨ i = 1 ∨ i = 2 by omega) with e | e | e <;> subst e <;> decide
          refine ⟨by simp only [List.length_map, boxS_length, List.length_take, List.length_range, sizeLine]; omega, ?_⟩
          refine hk2 _ _ ⟨?_, _, _, _, rfl⟩
          rw [List.set_append_right _ _ (Nat.le_refl _), Nat.sub_self, List.set_cons_zero]
          congr 3
          have e7 : (boxL i).take (j + 1) = (boxL i).take j ++ [row] := by rw [List.take_add_one, hj]; rfl
          rw [e7]
          unfold boxS
          rw [List.flatMap_append, List.map_append]
          simp [List.flatMap, rowT]
      · obtain ⟨rfl, o2, o4, o5, rfl⟩ := hJ
        have hm : (μ ++ ν ++ [Cell.lst ((boxS ((boxL i).take (boxL i).length)).map rowT)])[(μ ++ ν).length]? = some (Cell.lst ((boxS ((boxL i).take (boxL i).length)).map rowT)) := List.getElem?_concat_length
        simp only [wRet, wRetN, wLc, wLcC, wIZip, wIEnum, wISeq, wIRng1, wIRng2, wCons, wVar, wNil, wSeq, wSet, wAsg, wPar, wIf, wTest, wNext, wDrop, wOp, wUn, wCB, wC, wFor, wAug, wAugL, wAugS, wTup, wLst, wLstC, wNot, wAnd, wOr, wAndV, wOrV, wIfE, wCall, wYes, wgName, wgTup, wgsCons, wgsNil, wgSub, wM, wFrz, wDGet, wDIn, wDPut, wDNew, wRevT, wSl, wPart, wNoPart, wWhile, wSKey, wLcM, wLcD, wLcDC, wIZipD, wISeqD, wFld, wSFld, wMeth, wMake, wLc2, wStepL, wipeE, startE, List.map, List.length, List.cons_append, List.nil_append, List.append_nil, List.getElem?_cons_succ, List.getElem?_cons_zero, List.set_cons_succ, List.set_cons_zero, List.replicate, Nat.reduceAdd, Nat.reduceSub, if_true, if_false, Bool.false_eq_true, reduceIte, true_and, and_true, hm]
        rw [List.take_length]
        refine hk' _ _ ⟨⟨ν ++ [Cell.dead], ?_⟩, _, _, _, _, rfl⟩
        simp
    · obtain ⟨⟨ν, rfl⟩, o2, o3, o4, o5, rfl⟩ := hJ
      simp only [wRet, wRetN, wLc, wLcC, wIZip, wIEnum, wISeq, wIRng1, wIRng2, wCons, wVar, wNil, wSeq, wSet, wAsg, wPar, wIf, wTest, wNext, wDrop, wOp, wUn, wCB, wC, wFor, wAug, wAugL, wAugS, wTup, wLst, wLstC, wNot, wAnd, wOr, wAndV, wOrV, wIfE, wCall, wYes, wgName, wgTup, wgsCons, wgsNil, wgSub, wM, wFrz, wDGet, wDIn, wDPut, wDNew, wRevT, wSl, wPart, wNoPart, wWhile, wSKey, wLcM, wLcD, wLcDC, wIZipD, wISeqD, wFld, wSFld, wMeth, wMake, wLc2, wStepL, wipeE, startE, List.map, List.length, List.cons_append, List.nil_append, List.append_nil, List.getElem?_cons_succ, List.getElem?_cons_zero, List.set_cons_succ, List.set_cons_zero, List.replicate, Nat.reduceAdd, Nat.reduceSub, if_true, if_false, Bool.false_eq_true, reduceIte, true_and, and_true]
      exact gc_pure (lo_rowTs _ _) h5
end
end K86
namespace K86
open PySem PySem.Spec L2 WL
def Bd (b : Nat) (r : Row) : Prop := ∀ x ∈ r, x.natAbs < 2 ^ b
section
variable {P : Program} {w : World} {K : PySem.W.Frag} {mg : Str → Option Value} {base : Heap} {T : List (Addr × Str)} {c Pt : Addr}
/-- what the pot holds -/
structure PotOk (N : Nat) (cells : List Int) (p2 : Int) (up : Int) : Prop where
  l : cells.length = N
  n : N ≤ 1000000
  c : ∀ x ∈ cells, 0 ≤ x
  lo : 0 ≤ p2
  hi : p2 ≤ up
  top : up < 2 ^ 39
theorem PotOk.draw {N : Nat} {cells : List Int} {p1 p2 hi many : Int} {ν : Mem} {k : D → Mem → Prop} (o : PotOk N cells p2 hi) (hm : 0 < many) (hm2 : many < 2 ^ 60)
    (h : ∀ (x : Int) (cells' : List Int) (p1' : Int), 0 ≤ x → x < many → (∀ hi', hi + 1 ≤ hi' → hi' < 2 ^ 39 → PotOk N cells' (p2 + 1) hi') → k (.int x) (potM cells' p1' (p2 + 1) ν)) : fsDraw [.ref 1, .int many] (potM cells p1 p2 ν) k := by
  have h1 := o.lo
  have h2 := o.hi
  have h3 := o.top
  refine ⟨cells, p1, p2, many, ν, rfl, rfl, hm, hm2, by rw [o.l]; exact o.n, o.lo, by omega, o.c, fun x cells' p1' hx hx2 hl hc => h x cells' p1' hx hx2 fun hi' h4 h5 => ⟨hl.trans o.l, o.n, hc, by omega, by omega, h5⟩⟩
theorem gc_pot {cells cs : List Int} {p1 p2 q1 q2 : Int} {ν : Mem} {k : D → Mem → Prop} {d : D} (hd : d.lo 2 = true) (h : k d (potM cs q1 q2 [])) : gc (potM cells p1 p2 []) k d (potM cs q1 q2 ν) := by
  refine .inr ⟨hd, ?_, fun i c hi hc => .inr ?_, ?_⟩
  · simp
  · have hi : i < 2 := hi
    have h2 : i = 0 ∨ i = 1 := by omega
    rcases h2 with e | e <;> subst e
    · have : c = .lst (cs.map D.int) := by simpa using hc.symm
      subst this
      simp [Cell.lo, lo_ints]
    · have : c = .lst [.ref 0, .int q1, .int q2, .int 0] := by simpa using hc.symm
      subst this
      simp [Cell.lo, loL, D.lo]
  · exact h
end
end K86
namespace K86
open PySem PySem.Spec L2 WL
def sd : Nat → D → Prop
  | 0, d => (∃ i, d = .int i) ∨ ∃ b, d = .bl b
  | n + 1, d => sd n d ∨ ∃ es, d = .tup es ∧ es.length ≤ 1000 ∧ ∀ e ∈ es, sd n e
theorem sd_cases : ∀ {n : Nat} {d : D}, sd n d → (∃ i, d = .int i) ∨ (∃ b, d = .bl b) ∨ ∃ es m, n = m + 1 ∧ d = .tup es ∧ es.length ≤ 1000 ∧ ∀ e ∈ es, sd m e
  | 0, d, h => h.elim .inl fun h => .inr (.inl h)
  | n + 1, d, h => by
    rcases h with h | ⟨es, h1, h2, h3⟩
    · rcases sd_cases h with h | h | ⟨es, m, h1, h2, h3, h4⟩
      · exact .inl h
      · exact .inr (.inl h)
      · refine .inr (.inr ⟨es, n, rfl, h2, h3, fun e he => ?_⟩)
        rw [h1]
        exact .inl (h4 e he)
    · exact .inr (.inr ⟨es, n, rfl, h1, h2, h3⟩)
theorem kb_bool_bool : kitB "bool" "bool" = some true := by decide +kernel
theorem kb_bool_int : kitB "bool" "int" = some true := by decide +kernel
theorem kb_bool_str : kitB "bool" "str" = some false := by decide +kernel
theorem kb_bool_tuple : kitB "bool" "tuple" = some false := by decide +kernel
theorem kb_bool_list : kitB "bool" "list" = some false := by decide +kernel
theorem kb_int_bool : kitB "int" "bool" = some false := by decide +kernel
theorem kb_int_int : kitB "int" "int" = some true := by decide +kernel
theorem kb_int_str : kitB "int" "str" = some false := by decide +kernel
theorem kb_int_tuple : kitB "int" "tuple" = some false := by decide +kernel
theorem kb_int_list : kitB "int" "list" = some false := by decide +kernel
theorem kb_tuple_bool : kitB "tuple" "bool" = some false := by decide +kernel
theorem kb_tuple_int : kitB "tuple" "int" = some false := by decide +kernel
theorem kb_tuple_str : kitB "tuple" "str" = some false := by decide +kernel
theorem kb_tuple_tuple : kitB "tuple" "tuple" = some true := by decide +kernel
theorem kb_tuple_list : kitB "tuple" "list" = some false := by decide +kernel
section
variable {P : Program} {w : World} {K : PySem.W.Frag} {mg : Str → Option Value} {base : Heap} {T : List (Addr × Str)} {c Pt : Addr}
theorem cal_never {x : Str} {st : Stmt} {ps : List Str} (Df : DefW K mg x st ps) : CalW P w K mg base T 0 x (fun _ _ _ => False) := by
  obtain ⟨f, fd, F, hm, b⟩ := Df.ex
  exact ⟨f, fd, ps, ⟨fun vs H Q E h => by obtain ⟨_, _, _, _, _, _, _, h, _⟩ := h; exact h.elim, fun A outer s H args us vs Q E hr he hb hv h => by obtain ⟨_, _, _, _, _, _, _, h, _⟩ := h; exact h.elim⟩, hm, F.kp, b⟩
def fsSame (n : Nat) : FS := fun ds μ k => ∃ d, ds = [d, d] ∧ sd n d ∧ k (.bl true) μ
def fsSub (n : Nat) : FS := match n with
  | 0 => fun _ _ _ => False
  | n + 1 => fsSame n
theorem same_step {n : Nat} (Z : Zs mg) (Df : DefW K mg "_law_same" s__law_same ["got", "due"]) (C__law_same : CalW P w K mg base T n "_law_same" (fsSub n)) : CalW P w K mg base T (n + 1) "_law_same" (fsSame n) := by
  refine cal_w Df sc__law_same (fun ds μ k h => ?_) (fun f cdv A outer s H E hr => ⟨_, (b_cons (s_if (t_pw (p_or (t_val (e_callB call_isi ok_isi rfl Z.z_isinstance (by decide +kernel) (a_cons (e_var 1) (a_cons (e_bty (n := "tuple") rfl Z.z_tuple (by decide +kernel)) a_nil)))) (p_or1 (t_val (e_callB call_isi ok_isi rfl Z.z_isinstance (by decide +kernel) (a_cons (e_var 1) (a_cons (e_bty (n := "list") rfl Z.z_list (by decide +kernel)) a_nil))))))) (b_cons (s_if (t_pw (p_or (t_cmp (op_neA hr.units) ok_ne (e_callB call_isi ok_isi rfl Z.z_isinstance (by decide +kernel) (a_cons (e_var 1) (a_cons (e_bty (n := "tuple") rfl Z.z_tuple (by decide +kernel)) a_nil))) (e_callB call_isi ok_isi rfl Z.z_isinstance (by decide +kernel) (a_cons (e_var 0) (a_cons (e_bty (n := "tuple") rfl Z.z_tuple (by decide +kernel)) a_nil)))) (p_or1 (t_cmp (op_neA hr.units) ok_ne (e_callB call_isi ok_isi rfl Z.z_isinstance (by decide +kernel) (a_cons (e_var 1) (a_cons (e_bty (n := "list") rfl Z.z_list (by decide +kernel)) a_nil))) (e_callB call_isi ok_isi rfl Z.z_isinstance (by decide +kernel) (a_cons (e_var 0) (a_cons (e_bty (n := "list") rfl Z.z_list (by decide +kernel)) a_nil))))))) (b_one (s_ret e_bl)) b_nil)
  (b_one (s_ret (e_and (e_cmp (op_eqA hr.units) ok_eq (e_callB cr_len ok_len rfl Z.z_len (by decide +kernel) (a_cons (e_var 0) a_nil)) (e_callB cr_len ok_len rfl Z.z_len (by decide +kernel) (a_cons (e_var 1) a_nil))) (e_one (e_callB (cr_all rfl) ok_all rfl Z.z_all (by decide +kernel) (a_cons (e_lc rfl sc__law_same.nd (i_rng1 rfl Z.z_range (a_cons (e_callB cr_len ok_len rfl Z.z_len (by decide +kernel) (a_cons (e_var 1) a_nil)) a_nil)) (blkOk_by (N := N__law_same) (sc := defScope s__law_same) (own := [("k", 2)]) (by decide +kernel)) (fun _ _ _ _ _ => (g_name 2 sc__law_same.nd)) (fun _ _ _ _ _ => ts_nil) (fun _ _ _ _ _ => (e_c C__law_same hr (Nat.le_refl _) rfl (a_cons (e_ix ix_seq ok_ix (e_var 0) (e_var 2)) (a_cons (e_ix ix_seq ok_ix (e_var 1) (e_var 2)) a_nil))))) a_nil))))))) b_nil)
  (b_cons (s_if (t_cmp op_isN ok_is (e_var 1) e_non) (b_one (s_ret (e_cmp op_isN ok_is (e_var 0) e_non))) b_nil)
  (b_cons (s_if (t_val (e_callB call_isi ok_isi rfl Z.z_isinstance (by decide +kernel) (a_cons (e_var 1) (a_cons (e_bty (n := "bool") rfl Z.z_bool (by decide +kernel)) a_nil)))) (b_one (s_ret (e_and (e_callB call_isi ok_isi rfl Z.z_isinstance (by decide +kernel) (a_cons (e_var 0) (a_cons (e_bty (n := "bool") rfl Z.z_bool (by decide +kernel)) a_nil))) (e_one (e_cmp (op_eqA hr.units) ok_eq (e_var 0) (e_var 1)))))) b_nil)
  (b_cons (s_if (t_pw (p_or (t_val (e_callB call_isi ok_isi rfl Z.z_isinstance (by decide +kernel) (a_cons (e_var 0) (a_cons (e_bty (n := "bool") rfl Z.z_bool (by decide +kernel)) a_nil)))) (p_or (t_cmp (op_neA hr.units) ok_ne (e_callB call_isi ok_isi rfl Z.z_isinstance (by decide +kernel) (a_cons (e_var 0) (a_cons (e_bty (n := "int") rfl Z.z_int (by decide +kernel)) a_nil))) (e_callB call_isi ok_isi rfl Z.z_isinstance (by decide +kernel) (a_cons (e_var 1) (a_cons (e_bty (n := "int") rfl Z.z_int (by decide +kernel)) a_nil)))) (p_or1 (t_cmp (op_neA hr.units) ok_ne (e_callB call_isi ok_isi rfl Z.z_isinstance (by decide +kernel) (a_cons (e_var 0) (a_cons (e_bty (n := "str") rfl Z.z_str (by decide +kernel)) a_nil))) (e_callB call_isi ok_isi rfl Z.z_isinstance (by decide +kernel) (a_cons (e_var 1) (a_cons (e_bty (n := "str") rfl Z.z_str (by decide +kernel)) a_nil)))))))) (b_one (s_ret e_bl)) b_nil)
  (b_one (s_ret (e_cmp (op_eqA hr.units) ok_eq (e_var 0) (e_var 1)))))))), ?_⟩)
  · obtain ⟨d, rfl, _⟩ := h
    rfl
  · intro ds μ k h
    obtain ⟨d, rfl, h1, h2⟩ := h
    simp only [wRet, wRetN, wLc, wLcC, wIZip, wIEnum, wISeq, wIRng1, wIRng2, wCons, wVar, wNil, wSeq, wSet, wAsg, wPar, wIf, wTest, wNext, wDrop, wOp, wUn, wCB, wC, wFor, wAug, wAugL, wAugS, wTup, wLst, wLstC, wNot, wAnd, wOr, wAndV, wOrV, wIfE, wCall, wYes, wgName, wgTup, wgsCons, wgsNil, wgSub, wM, wFrz, wDGet, wDIn, wDPut, wDNew, wRevT, wSl, wPart, wNoPart, wWhile, wSKey, wLcM, wLcD, wLcDC, wIZipD, wISeqD, wFld, wSFld, wMeth, wMake, wLc2, wStepL, wipeE, startE, N__law_same, List.map, List.length, List.cons_append, List.nil_append, List.append_nil, List.getElem?_cons_succ, List.getElem?_cons_zero, List.set_cons_succ, List.set_cons_zero, List.replicate, Nat.reduceAdd, Nat.reduceSub, if_true, if_false, Bool.false_eq_true, reduceIte, true_and, and_true, coIsi]
    rcases sd_cases h1 with ⟨i, rfl⟩ | ⟨b, rfl⟩ | ⟨es, m, rfl, rfl, hl, hes⟩
    · simp only [tyName, kb_bool_bool, kb_bool_int, kb_bool_str, kb_bool_tuple, kb_bool_list, kb_int_bool, kb_int_int, kb_int_str, kb_int_tuple, kb_int_list, kb_tuple_bool, kb_tuple_int, kb_tuple_str, kb_tuple_tuple, kb_tuple_list]
      simp [roNe, roEq, roIs, isNon]
      exact gc_id h2
    · simp only [tyName, kb_bool_bool, kb_bool_int, kb_bool_str, kb_bool_tuple, kb_bool_list, kb_int_bool, kb_int_int, kb_int_str, kb_int_tuple, kb_int_list, kb_tuple_bool, kb_tuple_int, kb_tuple_str, kb_tuple_tuple, kb_tuple_list]
      simp [roNe, roEq, roIs, isNon]
      exact gc_id h2
    · simp only [tyName, kb_bool_bool, kb_bool_int, kb_bool_str, kb_bool_tuple, kb_bool_list, kb_int_bool, kb_int_int, kb_int_str, kb_int_tuple, kb_int_list, kb_tuple_bool, kb_tuple_int, kb_tuple_str, kb_tuple_tuple, kb_tuple_list]
      simp [roNe, roEq, roIs, isNon, coLen]
      refine ⟨by omega, ?_⟩
      refine lc_all _ (fun _ => D.bl true) (List.range es.length) (fun a ha acc R hacc hR => ?_) (by simp only [List.length_range, sizeLine]; omega) ?_
      · have ha : a < es.length := List.mem_range.mp ha
        simp only [wRet, wRetN, wLc, wLcC, wIZip, wIEnum, wISeq, wIRng1, wIRng2, wCons, wVar, wNil, wSeq, wSet, wAsg, wPar, wIf, wTest, wNext, wDrop, wOp, wUn, wCB, wC, wFor, wAug, wAugL, wAugS, wTup, wLst, wLstC, wNot, wAnd, wOr, wAndV, wOrV, wIfE, wCall, wYes, wgName, wgTup, wgsCons, wgsNil, wgSub, wM, wFrz, wDGet, wDIn, wDPut, wDNew, wRevT, wSl, wPart, wNoPart, wWhile, wSKey, wLcM, wLcD, wLcDC, wIZipD, wISeqD, wFld, wSFld, wMeth, wMake, wLc2, wStepL, wipeE, startE, List.map, List.length, List.cons_append, List.nil_append, List.append_nil, List.getElem?_cons_succ, List.getElem?_cons_zero, List.set_cons_succ, List.set_cons_zero, List.replicate, Nat.reduceAdd, Nat.reduceSub, if_true, if_false, Bool.false_eq_true, reduceIte, true_and, and_true]
        refine roIx_at (ds := es) (x := es[a]) rfl (List.getElem?_eq_getElem ha) (roIx_at (ds := es) (x := es[a]) rfl (List.getElem?_eq_getElem ha) ?_)
        exact ⟨es[a], rfl, hes _ (List.getElem_mem ha), hacc, hR⟩
      · have e : (List.range es.length).map (fun _ => D.bl true) = ((List.range es.length).map fun _ => true).map D.bl := by rw [List.map_map]; rfl
        simp only [coAll, listArg, lview]
        rw [e]
        simp only [Option.bind_some, blsD_map]
        have e2 : ((List.range es.length).map fun _ => true).all id = true := by simp
        rw [e2]
        exact gc_id h2
theorem c_same (Z : Zs mg) (Df : DefW K mg "_law_same" s__law_same ["got", "due"]) : ∀ n : Nat, CalW P w K mg base T (n + 1) "_law_same" (fsSame n)
  | 0 => same_step Z Df (cal_never Df)
  | n + 1 => same_step Z Df (c_same Z Df n)
end
end K86
namespace K86
open PySem PySem.Spec L2 WL
/-! comprehensions over cells that stay as they are -/
theorem lcD_all {α : Type} {cond : Mem → Prop} {g : WG} {we : WE} {εb : En} {kd : List D → Mem → Prop} {μ : Mem} (h : α → D) (f : α → D) (l : List α) (hc : cond μ)
    (hs : ∀ a ∈ l, ∀ (acc : List D) (R : List D → Mem → Prop), acc.length < sizeLine → R (acc ++ [f a]) μ →
      g (h a) εb μ fun ε2 μ2 => we ε2 μ2 fun y ε4 μ4 => ε4 = ε2 ∧ acc.length < sizeLine ∧ R (acc ++ [y]) μ4)
    (hl : l.length ≤ sizeLine) (hk : kd (l.map f) μ) : wLcLD cond g wYes we εb kd (l.map h) [] μ := by
  have key : ∀ (l2 : List α) (acc : List D), (∀ a ∈ l2, a ∈ l) → acc.length + l2.length ≤ sizeLine → kd (acc ++ l2.map f) μ → wLcLD cond g wYes we εb kd (l2.map h) acc μ := by
    intro l2
    induction l2 with
    | nil => intro acc _ _ hk; exact ⟨hc, by simpa using hk⟩
    | cons a l2 ih =>
      intro acc hm hn hk
      refine ⟨hc, ?_⟩
      have hn : acc.length + (l2.length + 1) ≤ sizeLine := hn
      have := hs a (hm a (List.mem_cons_self ..)) acc (fun acc' μ' => wLcLD cond g wYes we εb kd (l2.map h) acc' μ') (by omega) (ih _ (fun x hx => hm x (List.mem_cons_of_mem _ hx)) (by simp; omega) (by simpa using hk))
      simpa [wYes] using this
  exact key l [] (fun _ h => h) (by simpa using hl) (by simpa using hk)
section
variable {P : Program} {w : World} {K : PySem.W.Frag} {mg : Str → Option Value} {base : Heap} {T : List (Addr × Str)} {c Pt : Addr}
def cellR (r : Row) : Cell := .lst (r.map D.int)
def fsLessC : FS := fun ds μ k => ∃ (x z : Nat) (f : Int) (r o : Row), ds = [.ref x, .int f, .ref z] ∧ μ[x]? = some (cellR r) ∧ μ[z]? = some (cellR o) ∧ (∀ y ∈ o, IntMulOk f y) ∧ r.length < 1000 ∧
  k (.ref μ.length) (μ ++ [cellR (lessL r f o)])
theorem tv_cell {μ : Mem} {x : Nat} {r : Row} (h : μ[x]? = some (cellR r)) : tview μ (.ref x) = some (r.map D.int) := by
  show lview μ (.ref x) = _
  simp only [lview, h, cellR]
theorem c_lessC (Z : Zs mg) (Df : DefW K mg "less" s_less ["row", "factor", "other"]) : CalW P w K mg base T 1 "less" fsLessC := by
  refine cal_w Df sc_less (fun ds μ k h => ?_) (fun f cdv A outer s H E hr => ⟨_, (b_one (s_ret (e_lcDC rfl sc_less.nd (i_zipD rfl Z.z_zip (a_cons (e_var 0) (a_cons (e_var 2) a_nil))) (blkOk_by (N := N_less) (sc := defScope s_less) (own := [("one", 3), ("its", 4)]) (by decide +kernel)) (fun _ _ _ _ _ => (g_tup (n := 2) rfl (gs_cons (g_name 3 sc_less.nd) (gs_cons (g_name 4 sc_less.nd) gs_nil)))) (fun _ _ _ _ _ => ts_nil) (fun _ _ _ _ _ => (e_op op_sub ok_sub (e_var 3) (e_op op_mulAll ok_mul (e_var 1) (e_var 4))))))), ?_⟩)
  · obtain ⟨x, z, f, r, o, rfl, _⟩ := h
    rfl
  · intro ds μ k h
    obtain ⟨x, z, f, r, o, rfl, h1, h2, h3, h4, h5⟩ := h
    simp only [wRet, wRetN, wLc, wLcC, wIZip, wIEnum, wISeq, wIRng1, wIRng2, wCons, wVar, wNil, wSeq, wSet, wAsg, wPar, wIf, wTest, wNext, wDrop, wOp, wUn, wCB, wC, wFor, wAug, wAugL, wAugS, wTup, wLst, wLstC, wNot, wAnd, wOr, wAndV, wOrV, wIfE, wCall, wYes, wgName, wgTup, wgsCons, wgsNil, wgSub, wM, wFrz, wDGet, wDIn, wDPut, wDNew, wRevT, wSl, wPart, wNoPart, wWhile, wSKey, wLcM, wLcD, wLcDC, wIZipD, wISeqD, wFld, wSFld, wMeth, wMake, wLc2, wStepL, wipeE, startE, N_less, List.map, List.length, List.cons_append, List.nil_append, List.append_nil, List.getElem?_cons_succ, List.getElem?_cons_zero, List.set_cons_succ, List.set_cons_zero, List.replicate, Nat.reduceAdd, Nat.reduceSub, if_true, if_false, Bool.false_eq_true, reduceIte, true_and, and_true]
    rw [tv_cell h1, tv_cell h2]
    show wLcLD _ _ _ _ _ _ (List.zipWith _ _ _) _ _
    rw [zw_map]
    refine lcD_all _ (fun p : Int × Int => D.int (p.1 - f * p.2)) _ ⟨tv_cell h1, tv_cell h2⟩ (fun a ha acc R hacc hR => ?_) ?_ ?_
    · have hx := h3 a.2 (List.of_mem_zip ha).2
      simp only [wRet, wRetN, wLc, wLcC, wIZip, wIEnum, wISeq, wIRng1, wIRng2, wCons, wVar, wNil, wSeq, wSet, wAsg, wPar, wIf, wTest, wNext, wDrop, wOp, wUn, wCB, wC, wFor, wAug, wAugL, wAugS, wTup, wLst, wLstC, wNot, wAnd, wOr, wAndV, wOrV, wIfE, wCall, wYes, wgName, wgTup, wgsCons, wgsNil, wgSub, wM, wFrz, wDGet, wDIn, wDPut, wDNew, wRevT, wSl, wPart, wNoPart, wWhile, wSKey, wLcM, wLcD, wLcDC, wIZipD, wISeqD, wFld, wSFld, wMeth, wMake, wLc2, wStepL, wipeE, startE, List.map, List.length, List.cons_append, List.nil_append, List.append_nil, List.getElem?_cons_succ, List.getElem?_cons_zero, List.set_cons_succ, List.set_cons_zero, List.replicate, Nat.reduceAdd, Nat.reduceSub, if_true, if_false, Bool.false_eq_true, reduceIte, true_and, and_true, roSub, roMul, roI0]
      exact ⟨hx, hacc, hR⟩
    · simp only [List.length_zip, sizeLine]; omega
    · have e : List.map (fun p : Int × Int => D.int (p.1 - f * p.2)) (List.zip r o) = (lessL r f o).map D.int := by
        simp [lessL, List.zip, List.map_zipWith]
      rw [e]
      exact gc_id h5
end
end K86
namespace K86
open PySem PySem.Spec L2 WL
/-! the Turner in memory -/
structure TS (Ct : Addr) (μ0 : Mem) (N R Uc : Nat) (rs us : List Nat) (A U : List Row) (n : Nat) (μ : Mem) : Prop where
  fr : μ.take μ0.length = μ0
  lo : ∀ x ∈ N :: R :: Uc :: (rs ++ us), μ0.length ≤ x
  nd : (N :: R :: Uc :: (rs ++ us)).Nodup
  i : μ[N]? = some (.ins Ct [("rows", .ref R), ("many", .int (A.length : Nat)), ("width", .int (n : Nat)), ("unit", .ref Uc)])
  r : μ[R]? = some (.lst (rs.map D.ref))
  u : μ[Uc]? = some (.lst (us.map D.ref))
  la : rs.length = A.length
  lu : us.length = U.length
  c : ∀ (j : Nat) (x : Nat) (row : Row), (rs ++ us)[j]? = some x → (A ++ U)[j]? = some row → μ[x]? = some (cellR row)
  wa : ∀ r ∈ A ++ U, r.length = n
  sa : A.length < 1000
  su : U.length < 1000
  sn : n < 1000
section
variable {Ct : Addr} {μ0 : Mem} {N R Uc : Nat} {rs us : List Nat} {A U : List Row} {n : Nat} {μ : Mem}
theorem TS.len (t : TS Ct μ0 N R Uc rs us A U n μ) : μ0.length ≤ μ.length := by
  have h := congrArg List.length t.fr
  rw [List.length_take] at h
  omega
theorem get_app {μ ν : Mem} {x : Nat} {c : Cell} (h : μ[x]? = some c) : (μ ++ ν)[x]? = some c := by
  rw [List.getElem?_append_left (List.getElem?_eq_some_iff.mp h).1]
  exact h
theorem TS.junk (t : TS Ct μ0 N R Uc rs us A U n μ) (ν : Mem) : TS Ct μ0 N R Uc rs us A U n (μ ++ ν) :=
  { t with
    fr := by rw [List.take_append_of_le_length t.len]; exact t.fr
    i := get_app t.i
    r := get_app t.r
    u := get_app t.u
    c := fun j x row h1 h2 => get_app (t.c j x row h1 h2) }
theorem set_ne {μ : Mem} {x y : Nat} {c : Cell} (h : x ≠ y) : (μ.set x c)[y]? = μ[y]? := List.getElem?_set_ne h
theorem set_eq {μ : Mem} {x : Nat} {c c' : Cell} (h : μ[x]? = some c) : (μ.set x c')[x]? = some c' := by
  rw [List.getElem?_set_self (List.getElem?_eq_some_iff.mp h).1]
theorem take_set {μ : Mem} {m x : Nat} {c : Cell} (h : m ≤ x) : (μ.set x c).take m = μ.take m := by
  rw [List.take_set]
  rw [List.set_eq_of_length_le]
  rw [List.length_take]
  omega
theorem nd_ne {l : List Nat} (h : l.Nodup) {i j x : Nat} (hi : l[i]? = some x) (hj : l[j]? = some x) : i = j := by
  exact (List.getElem?_inj (List.getElem?_eq_some_iff.mp hi).1 h).mp (hi.trans hj.symm)
/-- one row is written -/
theorem TS.put (t : TS Ct μ0 N R Uc rs us A U n μ) {A' U' : List Row} {j x : Nat} {row : Row} (hj : (rs ++ us)[j]? = some x) (hl : A'.length = A.length) (hA : A' ++ U' = (A ++ U).set j row) (hn : row.length = n) :
    TS Ct μ0 N R Uc rs us A' U' n (μ.set x (cellR row)) := by
  have hx : x ∈ rs ++ us := List.mem_of_getElem? hj
  have hlo := t.lo x (by simp only [List.mem_cons]; exact .inr (.inr (.inr hx)))
  have nd := t.nd
  simp only [List.nodup_cons, List.mem_cons, not_or] at nd
  obtain ⟨⟨n1, n2, n3⟩, ⟨n4, n5⟩, n6, n7⟩ := nd
  have a1 : x ≠ N := fun e => n3 (e ▸ hx)
  have a2 : x ≠ R := fun e => n5 (e ▸ hx)
  have a3 : x ≠ Uc := fun e => n6 (e ▸ hx)
  have hU : U'.length = U.length := by
    have := congrArg List.length hA
    simp at this
    omega
  refine { t with fr := ?_, i := ?_, r := ?_, u := ?_, la := t.la.trans hl.symm, lu := t.lu.trans hU.symm, c := ?_, wa := ?_, sa := by rw [hl]; exact t.sa, su := by rw [hU]; exact t.su }
  · rw [take_set hlo]; exact t.fr
  · rw [set_ne a1, hl]; exact t.i
  · rw [set_ne a2]; exact t.r
  · rw [set_ne a3]; exact t.u
  · intro j2 x2 row2 h1 h2
    rw [hA] at h2
    by_cases e : j2 = j
    · subst e
      rw [hj] at h1
      cases h1
      have hl2 : j2 < (A ++ U).length := by
        have := (List.getElem?_eq_some_iff.mp h2).1
        simpa using this
      rw [List.getElem?_set_self hl2] at h2
      cases h2
      have := List.getElem?_eq_getElem hl2
      exact set_eq (t.c j2 x _ hj this)
    · rw [List.getElem?_set_ne (Ne.symm e)] at h2
      have hne : x ≠ x2 := by
        intro e2
        subst e2
        exact e (nd_ne n7 h1 hj)
      rw [set_ne hne]
      exact t.c j2 x2 row2 h1 h2
  · intro q hq
    rw [hA] at hq
    rcases List.mem_or_eq_of_mem_set hq with h | h
    · exact t.wa q h
    · rw [h]; exact hn
end
end K86
namespace K86
open PySem PySem.Spec L2 WL
/-! the fields -/
abbrev tfs (R Uc m n : Nat) : List (Str × D) := [("rows", .ref R), ("many", .int (m : Nat)), ("width", .int (n : Nat)), ("unit", .ref Uc)]
theorem lk_rows {R Uc m n : Nat} : (tfs R Uc m n).lookup ("rows" : Str) = some (D.ref R) := rfl
theorem lk_many {R Uc m n : Nat} : (tfs R Uc m n).lookup ("many" : Str) = some (D.int (m : Nat)) := rfl
theorem lk_width {R Uc m n : Nat} : (tfs R Uc m n).lookup ("width" : Str) = some (D.int (n : Nat)) := rfl
theorem lk_unit {R Uc m n : Nat} : (tfs R Uc m n).lookup ("unit" : Str) = some (D.ref Uc) := rfl
theorem lk_meth {R Uc m n : Nat} {x : Str} (h1 : (x == ("rows" : Str)) = false) (h2 : (x == ("many" : Str)) = false) (h3 : (x == ("width" : Str)) = false) (h4 : (x == ("unit" : Str)) = false) : (tfs R Uc m n).lookup x = none := by
  simp only [tfs, List.lookup, h1, h2, h3, h4]
section
variable {P : Program} {w : World} {K : PySem.W.Frag} {mg : Str → Option Value} {base : Heap} {T : List (Addr × Str)} {c Pt : Addr}
variable {Ct : Addr} {μ0 : Mem} {N R Uc : Nat} {rs us : List Nat} {A U : List Row} {n : Nat} {μ : Mem}
theorem TS.iv (t : TS Ct μ0 N R Uc rs us A U n μ) : iview Ct μ (.ref N) = some (tfs R Uc A.length n) := by
  simp only [iview, t.i, if_true]
theorem TS.lvR (t : TS Ct μ0 N R Uc rs us A U n μ) : lview μ (.ref R) = some (rs.map D.ref) := by simp only [lview, t.r]
theorem TS.lvU (t : TS Ct μ0 N R Uc rs us A U n μ) : lview μ (.ref Uc) = some (us.map D.ref) := by simp only [lview, t.u]
theorem TS.mR (t : TS Ct μ0 N R Uc rs us A U n μ) : lviewM μ (.ref R) = some (rs.map D.ref) := by simp only [lviewM, t.r]
theorem TS.mU (t : TS Ct μ0 N R Uc rs us A U n μ) : lviewM μ (.ref Uc) = some (us.map D.ref) := by simp only [lviewM, t.u]
def fsTables (Ct : Addr) : FS := fun ds μ k => ∃ μ0 N R Uc rs us A U n, ds = [.ref N] ∧ TS Ct μ0 N R Uc rs us A U n μ ∧ k (.lst ((rs ++ us).map D.ref)) μ
theorem cm_tables (Z : Zs mg) (Dm : DefM K Ct "tables" "Turner.tables" s_Turner_tables ["self"]) (Cl_Turner : Cls K Ct) (A_rows : NoAttr K Ct "rows") (A_unit : NoAttr K Ct "unit") : CalM P w K mg base T 1 Ct "tables" (fsTables Ct) := by
  refine cal_m Dm sc_Turner_tables (fun ds μ k h => ?_) (fun f cdv A outer s H E hr => ⟨_, (b_one (s_ret (e_op op_addAll ok_add (e_fld Cl_Turner A_rows (e_var 0)) (e_fld Cl_Turner A_unit (e_var 0))))), ?_⟩)
  · obtain ⟨μ0, N, R, Uc, rs, us, A, U, n, rfl, _⟩ := h
    rfl
  · intro ds μ k h
    obtain ⟨μ0, N, R, Uc, rs, us, A, U, n, rfl, t, hk⟩ := h
    simp only [wRet, wRetN, wLc, wLcC, wIZip, wIEnum, wISeq, wIRng1, wIRng2, wCons, wVar, wNil, wSeq, wSet, wAsg, wPar, wIf, wTest, wNext, wDrop, wOp, wUn, wCB, wC, wFor, wAug, wAugL, wAugS, wTup, wLst, wLstC, wNot, wAnd, wOr, wAndV, wOrV, wIfE, wCall, wYes, wgName, wgTup, wgsCons, wgsNil, wgSub, wM, wFrz, wDGet, wDIn, wDPut, wDNew, wRevT, wSl, wPart, wNoPart, wWhile, wSKey, wLcM, wLcD, wLcDC, wIZipD, wISeqD, wFld, wSFld, wMeth, wMake, wLc2, wStepL, wipeE, startE, N_Turner_tables, List.map, List.length, List.cons_append, List.nil_append, List.append_nil, List.getElem?_cons_succ, List.getElem?_cons_zero, List.set_cons_succ, List.set_cons_zero, List.replicate, Nat.reduceAdd, Nat.reduceSub, if_true, if_false, Bool.false_eq_true, reduceIte, true_and, and_true, t.iv, lk_rows, lk_unit]
    simp only [roAdd, t.mR, t.mU]
    have h1 := t.la
    have h2 := t.lu
    have h3 := t.sa
    have h4 := t.su
    refine ⟨by simp only [List.length_map, sizeLine]; omega, ?_⟩
    rw [← List.map_append]
    exact gc_id hk
end
end K86
namespace K86
open PySem PySem.Spec L2 WL
/-! two places change -/
def swp {α : Type} (d : α) (l : List α) (i j : Nat) : List α := (l.set i (l.getD j d)).set j (l.getD i d)
theorem swp_length {α : Type} {d : α} {l : List α} {i j : Nat} : (swp d l i j).length = l.length := by simp [swp]
theorem swp_perm {α : Type} {d : α} {l : List α} {i j : Nat} (hi : i < l.length) (hj : j < l.length) : (swp d l i j).Perm l := by
  have h0 := Array.swap_perm (xs := l.toArray) (i := i) (j := j) (by simpa) (by simpa)
  have h := Array.perm_iff_toList_perm.mp h0
  have e1 : l.getD j d = l[j] := by simp [hj]
  have e2 : l.getD i d = l[i] := by simp [hi]
  rw [swp, e1, e2]
  simpa using h
theorem swp_get {α : Type} {d : α} {l : List α} {i j k : Nat} (hi : i < l.length) (hj : j < l.length) : (swp d l i j)[k]? = if j = k then l[i]? else if i = k then l[j]? else l[k]? := by
  have e1 : l.getD j d = l[j] := by simp [hj]
  have e2 : l.getD i d = l[i] := by simp [hi]
  rw [swp, e1, e2]
  simp only [List.getElem?_set, List.length_set, hi, hj, if_true]
  by_cases h1 : j = k
  · simp [h1, hi]
  · simp only [h1, if_false]
    by_cases h2 : i = k
    · simp [h2, hj]
    · simp [h2]
theorem map_swp {α β : Type} {d : α} {e : β} {f : α → β} {l : List α} {i j : Nat} (hi : i < l.length) (hj : j < l.length) : (swp d l i j).map f = swp e (l.map f) i j := by
  simp [swp, List.map_set, hi, hj]
section
variable {Ct : Addr} {μ0 : Mem} {N R Uc : Nat} {rs us : List Nat} {A U : List Row} {n : Nat} {μ : Mem}
theorem TS.swap (t : TS Ct μ0 N R Uc rs us A U n μ) {i j : Nat} (hi : i < A.length) (hj : j < A.length) :
    TS Ct μ0 N R Uc (swp 0 rs i j) us (swp [] A i j) U n (μ.set R (.lst ((swp 0 rs i j).map D.ref))) := by
  have hi2 : i < rs.length := by rw [t.la]; exact hi
  have hj2 : j < rs.length := by rw [t.la]; exact hj
  have p : (swp 0 rs i j).Perm rs := swp_perm hi2 hj2
  have p2 : (N :: R :: Uc :: (swp 0 rs i j ++ us)).Perm (N :: R :: Uc :: (rs ++ us)) := ((p.append_right us).cons _ |>.cons _ |>.cons _)
  have hlo := t.lo R (by simp)
  have nd := t.nd
  simp only [List.nodup_cons, List.mem_cons, not_or] at nd
  obtain ⟨⟨n1, n2, n3⟩, ⟨n4, n5⟩, n6, n7⟩ := nd
  refine { t with fr := ?_, lo := fun x hx => t.lo x (p2.mem_iff.mp hx), nd := p2.nodup_iff.mpr t.nd, i := ?_, r := set_eq t.r, u := ?_, la := by rw [swp_length, swp_length]; exact t.la, c := ?_, wa := ?_, sa := by rw [swp_length]; exact t.sa }
  · rw [take_set hlo]; exact t.fr
  · rw [set_ne (Ne.symm n1), swp_length]; exact t.i
  · rw [set_ne n4]; exact t.u
  · intro k x row h1 h2
    have hx : x ∈ rs ++ us := ((p.append_right us).mem_iff).mp (List.mem_of_getElem? h1)
    have hxR : R ≠ x := fun e => n5 (e ▸ hx)
    rw [set_ne hxR]
    by_cases hk : k < rs.length
    · rw [List.getElem?_append_left (by rw [swp_length]; exact hk), swp_get hi2 hj2] at h1
      rw [List.getElem?_append_left (by rw [swp_length, ← t.la]; exact hk), swp_get hi hj] at h2
      have key : ∀ q, q < rs.length → rs[q]? = some x → A[q]? = some row → μ[x]? = some (cellR row) := by
        intro q hq a b
        refine t.c q x row ?_ ?_
        · rw [List.getElem?_append_left hq]; exact a
        · rw [List.getElem?_append_left (by rw [← t.la]; exact hq)]; exact b
      split at h1
      · rename_i e; rw [if_pos e] at h2; exact key i hi2 h1 h2
      · rename_i e
        rw [if_neg e] at h2
        split at h1
        · rename_i e; rw [if_pos e] at h2; exact key j hj2 h1 h2
        · rename_i e; rw [if_neg e] at h2; exact key k hk h1 h2
    · refine t.c k x row ?_ ?_
      · rw [List.getElem?_append_right (by rw [swp_length]; omega), swp_length] at h1
        rw [List.getElem?_append_right (by omega)]; exact h1
      · rw [List.getElem?_append_right (by rw [swp_length, ← t.la]; omega), swp_length] at h2
        rw [List.getElem?_append_right (by rw [← t.la]; omega)]; exact h2
  · intro q hq
    refine t.wa q ?_
    rw [List.mem_append] at hq ⊢
    exact hq.imp (fun h => (swp_perm hi hj).mem_iff.mp h) id
end
end K86
namespace K86
open PySem PySem.Spec L2 WL
/-! bring -/
def colS (i j : Nat) (r : Row) : Row := swp 0 r i j
def brA (A : List Row) (a r c : Nat) : List Row := (swp [] A a r).map (colS a c)
def brU (U : List Row) (a c : Nat) : List Row := U.map (colS a c)
section
variable {P : Program} {w : World} {K : PySem.W.Frag} {mg : Str → Option Value} {base : Heap} {T : List (Addr × Str)} {c Pt : Addr}
variable {Ct : Addr}
theorem soSetL_row {μ : Mem} {x p : Nat} {ds : List D} {d : D} {k : Mem → Prop} (h : μ[x]? = some (.lst ds)) (hp : p < ds.length) (hk : k (μ.set x (.lst (ds.set p d)))) : soSetL μ (.ref x) (.int (p : Nat)) d k := by
  have e : ixN ds.length (p : Int) = some p := by
    unfold ixN
    rw [if_pos (by omega), if_pos (by omega)]
    rfl
  simp only [soSetL, h, e]
  exact hk
theorem roIx_lv {μ : Mem} {n p : Nat} {ds : List D} {x : D} {k : D → Prop} (h : lview μ (.ref n) = some ds) (hp : ds[p]? = some x) (hk : k x) : roIx μ (.ref n) (.int (p : Nat)) k := by
  have hl : p < ds.length := (List.getElem?_eq_some_iff.mp hp).1
  simp only [roIx, h, atI_nat hl, hp]
  exact hk
theorem roIx_cell {μ : Mem} {x p : Nat} {r : Row} {k : D → Prop} (h : μ[x]? = some (cellR r)) (hp : p < r.length) (hk : k (.int (r.getD p 0))) : roIx μ (.ref x) (.int (p : Nat)) k := by
  refine roIx_lv (ds := r.map D.int) (x := .int (r.getD p 0)) (by simp only [lview, h, cellR]) ?_ hk
  simp [hp]
theorem map_ref_get {rs : List Nat} {p : Nat} (h : p < rs.length) : (rs.map D.ref)[p]? = some (D.ref (rs.getD p 0)) := by simp [h]
/-- all rows of both tables, one by one -/
theorem for_tables {μ0 : Mem} {N R Uc : Nat} {rs us : List Nat} {A U : List Row} {n : Nat} {μ : Mem} {g : WG} {b : WS} {k : WK} (SH : En → Prop) (f : Row → Row) (hf : ∀ row : Row, row.length = n → (f row).length = n) (t : TS Ct μ0 N R Uc rs us A U n μ)
    (hs : ∀ x row ε μ' (k' : En → Mem → Prop), row ∈ A ++ U → μ'[x]? = some (cellR row) → row.length = n → SH ε → (∀ ε', SH ε' → k' ε' (μ'.set x (cellR (f row)))) → g (.ref x) ε μ' fun ε1 μ1 => b { nx := k', rt := k.rt, bk := k.nx, ct := k' } ε1 μ1)
    (hk : ∀ ε μ', SH ε → TS Ct μ0 N R Uc rs us (A.map f) (U.map f) n μ' → k.nx ε μ') {ε : En} (h0 : SH ε) : wForL g b k ((rs ++ us).map D.ref) ε μ := by
  have hl : (rs ++ us).length = (A ++ U).length := by simp [t.la, t.lu]
  have key : ∀ i, i ≤ (A ++ U).length → (((A ++ U).take i).map f ++ (A ++ U).drop i).length = A.length + U.length := by
    intro i hi
    simp at hi ⊢
    omega
  refine for_list D.ref (rs ++ us) (fun i ε μ' => SH ε ∧ ∃ A' U', A'.length = A.length ∧ A' ++ U' = ((A ++ U).take i).map f ++ (A ++ U).drop i ∧ TS Ct μ0 N R Uc rs us A' U' n μ') (fun i x ε μ' k' hi hJ hk' => ?_) (fun ε μ' hJ => ?_) ⟨h0, A, U, rfl, by simp, t⟩
  · obtain ⟨hsh, A', U', e1, e2, t'⟩ := hJ
    have hil : i < (A ++ U).length := by rw [← hl]; exact (List.getElem?_eq_some_iff.mp hi).1
    have hrow : (A' ++ U')[i]? = some (A ++ U)[i] := by
      rw [e2, List.getElem?_append_right (by simp at hil ⊢; omega)]
      have e4 : i - (List.map f ((A ++ U).take i)).length = 0 := by simp at hil ⊢; omega
      rw [e4, List.drop_eq_getElem_cons hil]
      rfl
    have hc := t'.c i x _ hi hrow
    have hn := t.wa _ (List.getElem_mem hil)
    refine hs x _ ε μ' k' (List.getElem_mem hil) hc hn hsh fun ε' hsh' => hk' _ _ ⟨hsh', ?_⟩
    have e3 : (A' ++ U').set i (f (A ++ U)[i]) = ((A ++ U).take (i + 1)).map f ++ (A ++ U).drop (i + 1) := by
      rw [e2, List.set_append_right _ _ (by simp at hil ⊢; omega)]
      have e4 : i - (List.map f ((A ++ U).take i)).length = 0 := by simp at hil ⊢; omega
      rw [e4, List.drop_eq_getElem_cons hil, List.set_cons_zero, List.take_succ_eq_append_getElem hil, List.map_append]
      simp
    refine ⟨((A' ++ U').set i (f (A ++ U)[i])).take A'.length, ((A' ++ U').set i (f (A ++ U)[i])).drop A'.length, ?_, ?_, ?_⟩
    · rw [List.length_take, List.length_set, List.length_append, e1]; omega
    · rw [List.take_append_drop, e3]
    · exact t'.put hi (by simp) (List.take_append_drop ..) (hf _ hn)
  · obtain ⟨hsh, A', U', e1, e2, t'⟩ := hJ
    rw [hl, List.take_length, List.drop_length, List.append_nil, List.map_append] at e2
    obtain ⟨e3, e4⟩ := List.append_inj e2 (by simp [e1])
    subst e3 e4
    exact hk _ _ hsh t'
theorem TS.ne3 {μ0 : Mem} {N R Uc : Nat} {rs us : List Nat} {A U : List Row} {n : Nat} {μ : Mem} (t : TS Ct μ0 N R Uc rs us A U n μ) : N ≠ R ∧ N ≠ Uc ∧ R ≠ Uc := by
  have nd := t.nd
  simp only [List.nodup_cons, List.mem_cons, not_or] at nd
  exact ⟨nd.1.1, nd.1.2.1, nd.2.1.1⟩
theorem TS.ivR {μ0 : Mem} {N R Uc : Nat} {rs us : List Nat} {A U : List Row} {n : Nat} {μ : Mem} (t : TS Ct μ0 N R Uc rs us A U n μ) (c : Cell) : iview Ct (μ.set R c) (.ref N) = some (tfs R Uc A.length n) := by
  simp only [iview, set_ne t.ne3.1.symm, t.i, if_true]
theorem colS_length (i j : Nat) (r : Row) : (colS i j r).length = r.length := swp_length
def fsBring (Ct : Addr) : FS := fun ds μ k => ∃ μ0 N R Uc rs us A U n a r c, ds = [.ref N, .int (a : Nat), .int (r : Nat), .int (c : Nat)] ∧ TS Ct μ0 N R Uc rs us A U n μ ∧ a < A.length ∧ r < A.length ∧ a < n ∧ c < n ∧
  ∀ μ' rs', TS Ct μ0 N R Uc rs' us (brA A a r c) (brU U a c) n μ' → k .non μ'
theorem cm_bring (Z : Zs mg) (Dm : DefM K Ct "bring" "Turner.bring" s_Turner_bring ["self", "at", "row", "column"]) (Cl_Turner : Cls K Ct) (A_rows : NoAttr K Ct "rows")
    (CM_tables : CalM P w K mg base T 1 Ct "tables" (fsTables Ct)) : CalM P w K mg base T 2 Ct "bring" (fsBring Ct) := by
  refine cal_m Dm sc_Turner_bring (fun ds μ k h => ?_) (fun f cdv A outer s H E hr => ⟨_, (b_cons (s_asg (e_tup (a_cons (e_ix ix_seq ok_ix (e_fld Cl_Turner A_rows (e_var 0)) (e_var 2)) (a_cons (e_ix ix_seq ok_ix (e_fld Cl_Turner A_rows (e_var 0)) (e_var 1)) a_nil))) (g_tup (n := 2) rfl (gs_cons (g_sub (e_fld Cl_Turner A_rows (e_var 0)) (e_var 1) set_list ok_setL) (gs_cons (g_sub (e_fld Cl_Turner A_rows (e_var 0)) (e_var 2) set_list ok_setL) gs_nil))))
  (b_one (s_for PySem.PassesOwn.never rfl (i_seq (e_meth0 CM_tables hr (by decide) Cl_Turner (e_var 0))) (g_name 4 sc_Turner_bring.nd) (b_one (s_asg (e_tup (a_cons (e_ix ix_seq ok_ix (e_var 4) (e_var 3)) (a_cons (e_ix ix_seq ok_ix (e_var 4) (e_var 1)) a_nil))) (g_tup (n := 2) rfl (gs_cons (g_sub (e_var 4) (e_var 1) set_list ok_setL) (gs_cons (g_sub (e_var 4) (e_var 3) set_list ok_setL) gs_nil)))))))), ?_⟩)
  · obtain ⟨μ0, N, R, Uc, rs, us, A, U, n, a, r, c, rfl, _⟩ := h
    rfl
  · intro ds μ k h
    obtain ⟨μ0, N, R, Uc, rs, us, A, U, n, a, r, c, rfl, t, ha, hr, ha2, hc, hk⟩ := h
    simp only [wRet, wRetN, wLc, wLcC, wIZip, wIEnum, wISeq, wIRng1, wIRng2, wCons, wVar, wNil, wSeq, wSet, wAsg, wPar, wIf, wTest, wNext, wDrop, wOp, wUn, wCB, wC, wFor, wAug, wAugL, wAugS, wTup, wLst, wLstC, wNot, wAnd, wOr, wAndV, wOrV, wIfE, wCall, wYes, wgName, wgTup, wgsCons, wgsNil, wgSub, wM, wFrz, wDGet, wDIn, wDPut, wDNew, wRevT, wSl, wPart, wNoPart, wWhile, wSKey, wLcM, wLcD, wLcDC, wIZipD, wISeqD, wFld, wSFld, wMeth, wMake, wLc2, wStepL, wipeE, startE, N_Turner_bring, List.map, List.length, List.cons_append, List.nil_append, List.append_nil, List.getElem?_cons_succ, List.getElem?_cons_zero, List.set_cons_succ, List.set_cons_zero, List.replicate, Nat.reduceAdd, Nat.reduceSub, if_true, if_false, Bool.false_eq_true, reduceIte, true_and, and_true, t.iv, lk_rows]
    have hars : a < rs.length := by rw [t.la]; exact ha
    have hrrs : r < rs.length := by rw [t.la]; exact hr
    refine roIx_lv t.lvR (map_ref_get hrrs) (roIx_lv t.lvR (map_ref_get hars) ⟨by decide, ?_⟩)
    refine soSetL_row t.r (by rw [List.length_map]; exact hars) ?_
    simp only [t.ivR, lk_rows]
    refine soSetL_row (set_eq t.r) (by rw [List.length_set, List.length_map]; exact hrrs) ?_
    rw [List.set_set]
    have es : ((rs.map D.ref).set a (D.ref (rs.getD r 0))).set r (D.ref (rs.getD a 0)) = (swp 0 rs a r).map D.ref := by simp [swp, List.map_set]
    rw [es]
    have t1 := t.swap ha hr
    simp only [t1.iv]
    refine ⟨rfl, ⟨μ0, N, R, Uc, _, us, _, U, n, rfl, t1, ?_⟩⟩
    refine for_tables (fun ε => ∃ o, ε = [some (D.ref N), some (D.int a), some (D.int r), some (D.int c), o]) (colS a c) (fun row h => by rw [colS_length]; exact h) t1 (fun x row ε μ' k' hm hx hl hsh hk' => ?_) (fun ε μ' hsh t2 => gc_id (hk _ _ t2)) ⟨_, rfl⟩
    obtain ⟨o, rfl⟩ := hsh
    simp only [wRet, wRetN, wLc, wLcC, wIZip, wIEnum, wISeq, wIRng1, wIRng2, wCons, wVar, wNil, wSeq, wSet, wAsg, wPar, wIf, wTest, wNext, wDrop, wOp, wUn, wCB, wC, wFor, wAug, wAugL, wAugS, wTup, wLst, wLstC, wNot, wAnd, wOr, wAndV, wOrV, wIfE, wCall, wYes, wgName, wgTup, wgsCons, wgsNil, wgSub, wM, wFrz, wDGet, wDIn, wDPut, wDNew, wRevT, wSl, wPart, wNoPart, wWhile, wSKey, wLcM, wLcD, wLcDC, wIZipD, wISeqD, wFld, wSFld, wMeth, wMake, wLc2, wStepL, wipeE, startE, List.map, List.length, List.cons_append, List.nil_append, List.append_nil, List.getElem?_cons_succ, List.getElem?_cons_zero, List.set_cons_succ, List.set_cons_zero, List.replicate, Nat.reduceAdd, Nat.reduceSub, if_true, if_false, Bool.false_eq_true, reduceIte, true_and, and_true]
    refine roIx_cell hx (by omega) (roIx_cell hx (by omega) ⟨by decide, ?_⟩)
    refine soSetL_row hx (by simp; omega) ?_
    refine soSetL_row (set_eq hx) (by simp; omega) ?_
    rw [List.set_set]
    have es : ((row.map D.int).set a (D.int (row.getD c 0))).set c (D.int (row.getD a 0)) = (colS a c row).map D.int := by simp [colS, swp, List.map_set]
    rw [es]
    exact hk' _ ⟨_, rfl⟩
end
end K86
namespace K86
open PySem PySem.Spec L2 WL
/-! least_place -/
def ent (A : List Row) (i j : Nat) : Int := (A.getD i []).getD j 0
structure LeastAt (A : List Row) (a m n r c : Nat) : Prop where
  ar : a ≤ r
  rm : r < m
  ac : a ≤ c
  cn : c < n
  nz : ent A r c ≠ 0
  le : ∀ i j, a ≤ i → i < m → a ≤ j → j < n → ent A i j ≠ 0 → (ent A r c).natAbs < (ent A i j).natAbs ∨ ((ent A r c).natAbs = (ent A i j).natAbs ∧ (r < i ∨ (r = i ∧ c ≤ j)))
section
variable {P : Program} {w : World} {K : PySem.W.Frag} {mg : Str → Option Value} {base : Heap} {T : List (Addr × Str)} {c Pt : Addr}
variable {Ct : Addr}
def fsLeast (Ct : Addr) : FS := fun ds μ k => ∃ μ0 N R Uc rs us A U n a, ds = [.ref N, .int (a : Nat)] ∧ TS Ct μ0 N R Uc rs us A U n μ ∧ A.length ≤ 20 ∧ n ≤ 20 ∧ (∃ i j, a ≤ i ∧ i < A.length ∧ a ≤ j ∧ j < n ∧ ent A i j ≠ 0) ∧
  ∀ r c : Nat, LeastAt A a A.length n r c → k (.tup [.int r, .int c]) μ
theorem cm_least (Z : Zs mg) (Dm : DefM K Ct "least_place" "Turner.least_place" s_Turner_least_place ["self", "at"]) (Cl_Turner : Cls K Ct) (A_rows : NoAttr K Ct "rows") (A_many : NoAttr K Ct "many") (A_width : NoAttr K Ct "width") : CalM P w K mg base T 1 Ct "least_place" (fsLeast Ct) := by
  refine cal_m Dm sc_Turner_least_place (fun ds μ k h => ?_) (fun f cdv A outer s H E hr => ⟨_, (b_cons (s_setLc2 2 [4] rfl sc_Turner_least_place.nd (i_rng2 rfl Z.z_range (a_cons (e_var 1) (a_cons (e_fld Cl_Turner A_many (e_var 0)) a_nil))) (blkOk_by (N := N_Turner_least_place) (sc := defScope s_Turner_least_place) (own := [("row", 3), ("column", 4)]) (by decide +kernel)) (fun _ _ _ _ _ => (g_name 3 sc_Turner_least_place.nd)) (fun _ _ _ _ _ => ts_nil) (fun _ _ _ _ _ => (i_rng2 rfl Z.z_range (a_cons (e_var 1) (a_cons (e_fld Cl_Turner A_width (e_var 0)) a_nil)))) (fun _ _ _ _ _ => (g_name 4 sc_Turner_least_place.nd)) (fun _ _ _ _ _ => (ts_one (t_cmp (op_neA hr.units) ok_ne (e_ix ix_seq ok_ix (e_ix ix_seq ok_ix (e_fld Cl_Turner A_rows (e_var 0)) (e_var 3)) (e_var 4)) e_int))) (fun _ _ _ _ _ => (e_tup (a_cons (e_callB call_abs ok_abs rfl Z.z_abs (by decide +kernel) (a_cons (e_ix ix_seq ok_ix (e_ix ix_seq ok_ix (e_fld Cl_Turner A_rows (e_var 0)) (e_var 3)) (e_var 4)) a_nil)) (a_cons (e_var 3) (a_cons (e_var 4) a_nil))))))
  (b_one (s_ret (e_slice sl_all ok_slice (e_callB (cr_minD rfl hr.units) ok_minD rfl Z.z_min (by decide +kernel) (a_cons (e_var 2) a_nil)) (o_some e_int) o_none)))), ?_⟩)
  · obtain ⟨μ0, N, R, Uc, rs, us, A, U, n, a, rfl, _⟩ := h
    rfl
  · intro ds μ k h
    obtain ⟨μ0, N, R, Uc, rs, us, A, U, n, a, rfl, t, hm, hn, hex, hk⟩ := h
    simp only [wRet, wRetN, wLc, wLcC, wIZip, wIEnum, wISeq, wIRng1, wIRng2, wCons, wVar, wNil, wSeq, wSet, wAsg, wPar, wIf, wTest, wNext, wDrop, wOp, wUn, wCB, wC, wFor, wAug, wAugL, wAugS, wTup, wLst, wLstC, wNot, wAnd, wOr, wAndV, wOrV, wIfE, wCall, wYes, wgName, wgTup, wgsCons, wgsNil, wgSub, wM, wFrz, wDGet, wDIn, wDPut, wDNew, wRevT, wSl, wPart, wNoPart, wWhile, wSKey, wLcM, wLcD, wLcDC, wIZipD, wISeqD, wFld, wSFld, wMeth, wMake, wLc2, wStepL, wipeE, startE, N_Turner_least_place, List.map, List.length, List.cons_append, List.nil_append, List.append_nil, List.getElem?_cons_succ, List.getElem?_cons_zero, List.set_cons_succ, List.set_cons_zero, List.replicate, Nat.reduceAdd, Nat.reduceSub, if_true, if_false, Bool.false_eq_true, reduceIte, true_and, and_true, t.iv, lk_rows, lk_many, lk_width]
    obtain ⟨i0, j0, hi0, him0, hj0, hjn0, hnz0⟩ := hex
    refine ⟨⟨by omega, by omega, by omega, by omega⟩, ?_⟩
    have e1 : (fun n : Nat => D.int ((a : Int) + (n : Int))) = fun n : Nat => D.int ((a + n : Nat) : Int) := by
      funext x
      congr 1
    have e2 : ((A.length : Int) - (a : Int)).toNat = A.length - a := by omega
    have e3 : ((n : Int) - (a : Int)).toNat = n - a := by omega
    rw [e1, e2]
    let Fl : Nat → List (Int × Int × Int) := fun i => ((List.range (n - a)).filter fun j => decide (ent A (a + i) (a + j) ≠ 0)).map fun j => (((ent A (a + i) (a + j)).natAbs : Int), ((a + i : Nat) : Int), ((a + j : Nat) : Int))
    refine lc2_all (fun i : Nat => D.int ((a + i : Nat) : Int)) (fun i => (Fl i).map t3) 20 _ [] (fun i hi acc R hacc hR => ?_) (fun i hi => ?_) (by simp only [List.length_nil, List.length_range, sizeLine]; omega) ?_
    · have hi : a + i < A.length := by have := List.mem_range.mp hi; omega
      have hrs : a + i < rs.length := by rw [t.la]; exact hi
      have hcell : μ[rs.getD (a + i) 0]? = some (cellR (A.getD (a + i) [])) := by
        refine t.c (a + i) _ _ ?_ ?_
        · rw [List.getElem?_append_left hrs]; simp [hrs]
        · rw [List.getElem?_append_left hi]; simp [hi]
      have hrl : (A.getD (a + i) []).length = n := t.wa _ (List.mem_append_left _ (by simp [hi]))
      simp only [wRet, wRetN, wLc, wLcC, wIZip, wIEnum, wISeq, wIRng1, wIRng2, wCons, wVar, wNil, wSeq, wSet, wAsg, wPar, wIf, wTest, wNext, wDrop, wOp, wUn, wCB, wC, wFor, wAug, wAugL, wAugS, wTup, wLst, wLstC, wNot, wAnd, wOr, wAndV, wOrV, wIfE, wCall, wYes, wgName, wgTup, wgsCons, wgsNil, wgSub, wM, wFrz, wDGet, wDIn, wDPut, wDNew, wRevT, wSl, wPart, wNoPart, wWhile, wSKey, wLcM, wLcD, wLcDC, wIZipD, wISeqD, wFld, wSFld, wMeth, wMake, wLc2, wStepL, wipeE, startE, List.map, List.length, List.cons_append, List.nil_append, List.append_nil, List.getElem?_cons_succ, List.getElem?_cons_zero, List.set_cons_succ, List.set_cons_zero, List.replicate, Nat.reduceAdd, Nat.reduceSub, if_true, if_false, Bool.false_eq_true, reduceIte, true_and, and_true, t.iv, lk_rows, lk_width]
      refine ⟨⟨by omega, by omega, by omega, by omega⟩, ?_⟩
      rw [e1, e3]
      have hR2 : R (acc ++ (((List.range (n - a)).filter fun j => decide (ent A (a + i) (a + j) ≠ 0)).map fun j : Nat => t3 (((ent A (a + i) (a + j)).natAbs : Int), ((a + i : Nat) : Int), ((a + j : Nat) : Int)))) μ := by
        have : (Fl i).map t3 = (((List.range (n - a)).filter fun j => decide (ent A (a + i) (a + j) ≠ 0)).map fun j : Nat => t3 (((ent A (a + i) (a + j)).natAbs : Int), ((a + i : Nat) : Int), ((a + j : Nat) : Int))) := by
          simp only [Fl, List.map_map]; rfl
        rw [← this]; exact hR
      refine lcIn_map _ _ _ _ _ (fun j hj acc R hacc hR => ?_) (by simp only [List.length_range]; omega) hR2
      have hj : a + j < n := by have := List.mem_range.mp hj; omega
      simp only [wRet, wRetN, wLc, wLcC, wIZip, wIEnum, wISeq, wIRng1, wIRng2, wCons, wVar, wNil, wSeq, wSet, wAsg, wPar, wIf, wTest, wNext, wDrop, wOp, wUn, wCB, wC, wFor, wAug, wAugL, wAugS, wTup, wLst, wLstC, wNot, wAnd, wOr, wAndV, wOrV, wIfE, wCall, wYes, wgName, wgTup, wgsCons, wgsNil, wgSub, wM, wFrz, wDGet, wDIn, wDPut, wDNew, wRevT, wSl, wPart, wNoPart, wWhile, wSKey, wLcM, wLcD, wLcDC, wIZipD, wISeqD, wFld, wSFld, wMeth, wMake, wLc2, wStepL, wipeE, startE, List.map, List.length, List.cons_append, List.nil_append, List.append_nil, List.getElem?_cons_succ, List.getElem?_cons_zero, List.set_cons_succ, List.set_cons_zero, List.replicate, Nat.reduceAdd, Nat.reduceSub, if_true, if_false, Bool.false_eq_true, reduceIte, true_and, and_true, t.iv, lk_rows]
      refine roIx_lv t.lvR (map_ref_get hrs) (roIx_cell hcell (by omega) ?_)
      simp only [roNe, true_and]
      have e4 : (A.getD (a + i) []).getD (a + j) 0 = ent A (a + i) (a + j) := rfl
      rw [e4]
      by_cases h0 : ent A (a + i) (a + j) = 0
      · simp only [h0, decide_true, Bool.not_true, Bool.false_eq_true, if_false] at hR ⊢
        simpa using hR
      · simp only [h0, decide_false, Bool.not_false, if_true]
        refine roIx_lv t.lvR (map_ref_get hrs) (roIx_cell hcell (by omega) ?_)
        rw [e4]
        simp only [coAbs]
        refine ⟨by decide, hacc, ?_⟩
        have e5 : (if ent A (a + i) (a + j) < 0 then -ent A (a + i) (a + j) else ent A (a + i) (a + j)) = ((ent A (a + i) (a + j)).natAbs : Int) := by split <;> omega
        rw [e5]
        simpa [h0, t3] using hR
    · have : (Fl i).length ≤ n - a := by
        simp only [Fl, List.length_map]
        exact Nat.le_trans (List.length_filter_le _ _) (by simp)
      simp only [List.length_map]; omega
    · simp only [List.nil_append]
      rw [← List.map_flatMap]
      have mem : ∀ m : Int × Int × Int, m ∈ (List.range (A.length - a)).flatMap Fl ↔ ∃ i j : Nat, a ≤ i ∧ i < A.length ∧ a ≤ j ∧ j < n ∧ ent A i j ≠ 0 ∧ m = (((ent A i j).natAbs : Int), (i : Int), (j : Int)) := by
        intro m
        simp only [Fl, List.mem_flatMap, List.mem_map, List.mem_filter, List.mem_range, decide_eq_true_eq]
        constructor
        · rintro ⟨i, hi, j, ⟨hj, h0⟩, rfl⟩
          exact ⟨a + i, a + j, by omega, by omega, by omega, by omega, h0, rfl⟩
        · rintro ⟨i, j, h1, h2, h3, h4, h0, rfl⟩
          refine ⟨i - a, by omega, j - a, ⟨by omega, ?_⟩, ?_⟩
          · rw [show a + (i - a) = i by omega, show a + (j - a) = j by omega]; exact h0
          · rw [show a + (i - a) = i by omega, show a + (j - a) = j by omega]
      refine coMin3 (fun e => ?_) (fun m hm hle => ?_)
      · have := (mem (((ent A i0 j0).natAbs : Int), (i0 : Int), (j0 : Int))).mpr ⟨i0, j0, hi0, him0, hj0, hjn0, hnz0, rfl⟩
        rw [e] at this
        cases this
      · obtain ⟨r, c, h1, h2, h3, h4, h0, rfl⟩ := (mem m).mp hm
        refine gc_id (hk r c ⟨h1, h2, h3, h4, h0, fun i j g1 g2 g3 g4 g0 => ?_⟩)
        have := hle _ ((mem _).mpr ⟨i, j, g1, g2, g3, g4, g0, rfl⟩)
        simp only [le3] at this
        omega
end
end K86
namespace K86
open PySem PySem.Spec L2 WL
/-! clear -/
def rowOp (p : Int) (a i : Nat) (A : List Row) : List Row := A.set i (lessL (A.getD i []) ((ent A i a).fdiv p) (A.getD a []))
def rowPh (p : Int) (a : Nat) (A : List Row) : Nat → List Row
  | 0 => A
  | k + 1 => rowOp p a (a + 1 + k) (rowPh p a A k)
def colF (a c : Nat) (f : Int) (r : Row) : Row := r.set c (r.getD c 0 - f * r.getD a 0)
def colPh (p : Int) (a : Nat) (A U : List Row) : Nat → List Row × List Row
  | 0 => (A, U)
  | k + 1 => ((colPh p a A U k).1.map (colF a (a + 1 + k) ((ent (colPh p a A U k).1 a (a + 1 + k)).fdiv p)), (colPh p a A U k).2.map (colF a (a + 1 + k) ((ent (colPh p a A U k).1 a (a + 1 + k)).fdiv p)))
def clA (A U : List Row) (a n : Nat) : List Row × List Row := colPh (ent A a a) a (rowPh (ent A a a) a A (A.length - (a + 1))) U (n - (a + 1))
def clB (A : List Row) (a n : Nat) : Bool := (List.range (A.length - (a + 1))).all (fun i => decide (ent A (a + 1 + i) a = 0)) && (List.range (n - (a + 1))).all (fun i => decide (ent A a (a + 1 + i) = 0))
structure ClOk (A U : List Row) (a n : Nat) : Prop where
  p0 : CDivZ 0 (ent A a a)
  r : ∀ k, a + 1 + k < A.length → ∀ y ∈ A.getD a [], IntMulOk ((ent (rowPh (ent A a a) a A k) (a + 1 + k) a).fdiv (ent A a a)) y
  c : ∀ k, a + 1 + k < n → ∀ B, B = rowPh (ent A a a) a A (A.length - (a + 1)) → ∀ row, row ∈ (colPh (ent A a a) a B U k).1 ++ (colPh (ent A a a) a B U k).2 → IntMulOk ((ent (colPh (ent A a a) a B U k).1 a (a + 1 + k)).fdiv (ent A a a)) (row.getD a 0)
theorem rowOp_length (p : Int) (a i : Nat) (A : List Row) : (rowOp p a i A).length = A.length := by simp [rowOp]
theorem rowPh_length (p : Int) (a : Nat) (A : List Row) : ∀ k, (rowPh p a A k).length = A.length
  | 0 => rfl
  | k + 1 => by rw [rowPh, rowOp_length, rowPh_length p a A k]
theorem rowPh_at (p : Int) (a : Nat) (A : List Row) : ∀ k, (rowPh p a A k).getD a [] = A.getD a []
  | 0 => rfl
  | k + 1 => by
    rw [rowPh, rowOp, List.getD_eq_getElem?_getD, List.getElem?_set_ne (by omega), ← List.getD_eq_getElem?_getD, rowPh_at p a A k]
theorem colF_length (a c : Nat) (f : Int) (r : Row) : (colF a c f r).length = r.length := by simp [colF]
theorem colPh_len (p : Int) (a : Nat) (A U : List Row) : ∀ k, (colPh p a A U k).1.length = A.length ∧ (colPh p a A U k).2.length = U.length
  | 0 => ⟨rfl, rfl⟩
  | k + 1 => by
    have := colPh_len p a A U k
    simp [colPh, this]
section
variable {P : Program} {w : World} {K : PySem.W.Frag} {mg : Str → Option Value} {base : Heap} {T : List (Addr × Str)} {c Pt : Addr}
variable {Ct : Addr}
section
variable {μ0 : Mem} {N R Uc : Nat} {rs us : List Nat} {A U : List Row} {n : Nat} {μ : Mem}
theorem TS.lt (t : TS Ct μ0 N R Uc rs us A U n μ) {x : Nat} (hx : x ∈ N :: R :: Uc :: (rs ++ us)) : x < μ.length := by
  rcases List.mem_cons.mp hx with e | hx
  · rw [e]; exact (List.getElem?_eq_some_iff.mp t.i).1
  rcases List.mem_cons.mp hx with e | hx
  · rw [e]; exact (List.getElem?_eq_some_iff.mp t.r).1
  rcases List.mem_cons.mp hx with e | hx
  · rw [e]; exact (List.getElem?_eq_some_iff.mp t.u).1
  obtain ⟨j, hj, e⟩ := List.getElem_of_mem hx
  have hl : j < (A ++ U).length := by rw [List.length_append] at hj ⊢; rw [← t.la, ← t.lu]; exact hj
  have := t.c j x _ (by rw [List.getElem?_eq_getElem hj, e]) (List.getElem?_eq_getElem hl)
  exact (List.getElem?_eq_some_iff.mp this).1
theorem TS.row (t : TS Ct μ0 N R Uc rs us A U n μ) {i : Nat} (hi : i < A.length) : μ[rs.getD i 0]? = some (cellR (A.getD i [])) := by
  have hrs : i < rs.length := by rw [t.la]; exact hi
  refine t.c i _ _ ?_ ?_
  · rw [List.getElem?_append_left hrs]; simp [hrs]
  · rw [List.getElem?_append_left hi]; simp [hi]
theorem TS.rlen (t : TS Ct μ0 N R Uc rs us A U n μ) {i : Nat} (hi : i < A.length) : (A.getD i []).length = n := t.wa _ (List.mem_append_left _ (by simp [hi]))
theorem TS.repl (t : TS Ct μ0 N R Uc rs us A U n μ) {i : Nat} {row : Row} (hi : i < A.length) (hn : row.length = n) :
    TS Ct μ0 N R Uc (rs.set i μ.length) us (A.set i row) U n ((μ ++ [cellR row]).set R (.lst ((rs.set i μ.length).map D.ref))) := by
  have hi2 : i < rs.length := by rw [t.la]; exact hi
  have nd := t.nd
  simp only [List.nodup_cons, List.mem_cons, not_or] at nd
  obtain ⟨⟨n1, n2, n3⟩, ⟨n4, n5⟩, n6, n7⟩ := nd
  have hnew : μ.length ∉ N :: R :: Uc :: (rs ++ us) := fun h => Nat.lt_irrefl _ (t.lt h)
  simp only [List.mem_cons, not_or] at hnew
  obtain ⟨m1, m2, m3, m4⟩ := hnew
  have hset : rs.set i μ.length ++ us = (rs ++ us).set i μ.length := (List.set_append_left _ _ hi2).symm
  have hset2 : A.set i row ++ U = (A ++ U).set i row := (List.set_append_left _ _ hi).symm
  have hsub : ∀ x ∈ rs.set i μ.length ++ us, x = μ.length ∨ x ∈ rs ++ us := fun x hx => by
    rw [hset] at hx
    rcases List.mem_or_eq_of_mem_set hx with h | h
    · exact .inr h
    · exact .inl h
  have tj := t.junk [cellR row]
  have hlo := t.lo R (by simp)
  refine { t with fr := ?_, lo := fun x hx => ?_, nd := ?_, i := ?_, r := set_eq tj.r, u := ?_, la := by rw [List.length_set, List.length_set]; exact t.la, c := ?_, wa := ?_, sa := by rw [List.length_set]; exact t.sa }
  · rw [take_set hlo]; exact tj.fr
  · simp only [List.mem_cons] at hx
    rcases hx with h | h | h | h
    · exact t.lo x (by simp [h])
    · exact t.lo x (by simp [h])
    · exact t.lo x (by simp [h])
    · rcases hsub x h with e | e
      · rw [e]; exact t.len
      · exact t.lo x (by simp only [List.mem_cons]; exact .inr (.inr (.inr e)))
  · simp only [List.nodup_cons, List.mem_cons, not_or]
    refine ⟨⟨n1, n2, fun h => ?_⟩, ⟨n4, fun h => ?_⟩, fun h => ?_, ?_⟩
    · rcases hsub _ h with e | e
      · exact m1 e.symm
      · exact n3 e
    · rcases hsub _ h with e | e
      · exact m2 e.symm
      · exact n5 e
    · rcases hsub _ h with e | e
      · exact m3 e.symm
      · exact n6 e
    · rw [hset, List.Nodup, List.pairwise_iff_getElem]
      intro p q hp hq hpq
      rw [List.length_set] at hp hq
      rw [List.getElem_set, List.getElem_set]
      have n8 := (List.pairwise_iff_getElem.mp n7) p q hp hq hpq
      split
      · split
        · omega
        · exact fun h => m4 (h ▸ List.getElem_mem _)
      · split
        · exact fun h => m4 (h ▸ List.getElem_mem _)
        · exact n8
  · rw [set_ne (Ne.symm n1), List.length_set]; exact tj.i
  · rw [set_ne n4]; exact tj.u
  · intro j x r2 h1 h2
    rw [hset] at h1
    rw [hset2] at h2
    by_cases e : j = i
    · subst e
      rw [List.getElem?_set_self (by simp; omega)] at h1 h2
      have e1 := Option.some.inj h1
      have e2 := Option.some.inj h2
      subst e1 e2
      rw [set_ne (Ne.symm m2)]
      simp
    · rw [List.getElem?_set_ne (Ne.symm e)] at h1 h2
      have hx : x ∈ rs ++ us := List.mem_of_getElem? h1
      rw [set_ne (fun e2 : R = x => n5 (by rw [e2]; exact hx))]
      exact tj.c j x r2 h1 h2
  · intro q hq
    rw [hset2] at hq
    rcases List.mem_or_eq_of_mem_set hq with h | h
    · exact t.wa q h
    · rw [h]; exact hn
end
def fsClear (Ct : Addr) : FS := fun ds μ k => ∃ μ0 N R Uc rs us A U n a, ds = [.ref N, .int (a : Nat)] ∧ TS Ct μ0 N R Uc rs us A U n μ ∧ a < A.length ∧ a < n ∧ A.length ≤ 20 ∧ n ≤ 20 ∧ ClOk A U a n ∧
  ∀ μ' rs', TS Ct μ0 N R Uc rs' us (clA A U a n).1 (clA A U a n).2 n μ' → k (.bl (clB (clA A U a n).1 a n)) μ'
theorem cm_clear (Z : Zs mg) (Dm : DefM K Ct "clear" "Turner.clear" s_Turner_clear ["self", "at"]) (Cl_Turner : Cls K Ct) (A_rows : NoAttr K Ct "rows") (A_many : NoAttr K Ct "many") (A_width : NoAttr K Ct "width")
    (CM_tables : CalM P w K mg base T 1 Ct "tables" (fsTables Ct)) (C_less : CalW P w K mg base T 1 "less" fsLessC) : CalM P w K mg base T 2 Ct "clear" (fsClear Ct) := by
  refine cal_m Dm sc_Turner_clear (fun ds μ k h => ?_) (fun f cdv A outer s H E hr => ⟨_, (b_cons (s_set 2 sc_Turner_clear.nd (e_ix ix_seq ok_ix (e_ix ix_seq ok_ix (e_fld Cl_Turner A_rows (e_var 0)) (e_var 1)) (e_var 1)))
  (b_cons (s_for PySem.PassesOwn.never rfl (i_rng2 rfl Z.z_range (a_cons (e_op op_addAll ok_add (e_var 1) e_int) (a_cons (e_fld Cl_Turner A_many (e_var 0)) a_nil))) (g_name 3 sc_Turner_clear.nd) (b_one (s_asg (e_c C_less hr (by decide) rfl (a_cons (e_ix ix_seq ok_ix (e_fld Cl_Turner A_rows (e_var 0)) (e_var 3)) (a_cons (e_op op_fdivZ ok_fdiv (e_ix ix_seq ok_ix (e_ix ix_seq ok_ix (e_fld Cl_Turner A_rows (e_var 0)) (e_var 3)) (e_var 1)) (e_var 2)) (a_cons (e_ix ix_seq ok_ix (e_fld Cl_Turner A_rows (e_var 0)) (e_var 1)) a_nil)))) (g_sub (e_fld Cl_Turner A_rows (e_var 0)) (e_var 3) set_list ok_setL))))
  (b_cons (s_for PySem.PassesOwn.never rfl (i_rng2 rfl Z.z_range (a_cons (e_op op_addAll ok_add (e_var 1) e_int) (a_cons (e_fld Cl_Turner A_width (e_var 0)) a_nil))) (g_name 4 sc_Turner_clear.nd) (b_cons (s_set 6 sc_Turner_clear.nd (e_op op_fdivZ ok_fdiv (e_ix ix_seq ok_ix (e_ix ix_seq ok_ix (e_fld Cl_Turner A_rows (e_var 0)) (e_var 1)) (e_var 4)) (e_var 2)))
  (b_one (s_for PySem.PassesOwn.never rfl (i_seq (e_meth0 CM_tables hr (by decide) Cl_Turner (e_var 0))) (g_name 7 sc_Turner_clear.nd) (b_one (s_augS (e_var 7) (e_var 4) (e_op op_mulAll ok_mul (e_var 6) (e_ix ix_seq ok_ix (e_var 7) (e_var 1))) ip_sub ok_ipsub))))))
  (b_cons (s_setLc 5 rfl sc_Turner_clear.nd (i_rng2 rfl Z.z_range (a_cons (e_op op_addAll ok_add (e_var 1) e_int) (a_cons (e_fld Cl_Turner A_many (e_var 0)) a_nil))) (blkOk_by (N := N_Turner_clear) (sc := defScope s_Turner_clear) (own := [("row", 3)]) (by decide +kernel)) (fun _ _ _ _ _ => (g_name 3 sc_Turner_clear.nd)) (fun _ _ _ _ _ => ts_nil) (fun _ _ _ _ _ => (e_ix ix_seq ok_ix (e_ix ix_seq ok_ix (e_fld Cl_Turner A_rows (e_var 0)) (e_var 3)) (e_var 1))))
  (b_one (s_ret (e_callB (cr_all rfl) ok_all rfl Z.z_all (by decide +kernel) (a_cons (e_lc rfl sc_Turner_clear.nd (i_seq (e_op op_addAll ok_add (e_var 5) (e_slice sl_all ok_slice (e_ix ix_seq ok_ix (e_fld Cl_Turner A_rows (e_var 0)) (e_var 1)) (o_some (e_op op_addAll ok_add (e_var 1) e_int)) o_none))) (blkOk_by (N := N_Turner_clear) (sc := defScope s_Turner_clear) (own := [("one", 7)]) (by decide +kernel)) (fun _ _ _ _ _ => (g_name 7 sc_Turner_clear.nd)) (fun _ _ _ _ _ => ts_nil) (fun _ _ _ _ _ => (e_cmp (op_eqA hr.units) ok_eq (e_var 7) e_int))) a_nil)))))))), ?_⟩)
  · obtain ⟨μ0, N, R, Uc, rs, us, A, U, n, a, rfl, _⟩ := h
    rfl
  · intro ds μ k h
    obtain ⟨μ0, N, R, Uc, rs, us, A, U, n, a, rfl, t, ha, hn, hm20, hn20, ok, hk⟩ := h
    simp only [wRet, wRetN, wLc, wLcC, wIZip, wIEnum, wISeq, wIRng1, wIRng2, wCons, wVar, wNil, wSeq, wSet, wAsg, wPar, wIf, wTest, wNext, wDrop, wOp, wUn, wCB, wC, wFor, wAug, wAugL, wAugS, wTup, wLst, wLstC, wNot, wAnd, wOr, wAndV, wOrV, wIfE, wCall, wYes, wgName, wgTup, wgsCons, wgsNil, wgSub, wM, wFrz, wDGet, wDIn, wDPut, wDNew, wRevT, wSl, wPart, wNoPart, wWhile, wSKey, wLcM, wLcD, wLcDC, wIZipD, wISeqD, wFld, wSFld, wMeth, wMake, wLc2, wStepL, wipeE, startE, N_Turner_clear, List.map, List.length, List.cons_append, List.nil_append, List.append_nil, List.getElem?_cons_succ, List.getElem?_cons_zero, List.set_cons_succ, List.set_cons_zero, List.replicate, Nat.reduceAdd, Nat.reduceSub, if_true, if_false, Bool.false_eq_true, reduceIte, true_and, and_true, t.iv, lk_rows, lk_many, lk_width]
    have hars : a < rs.length := by rw [t.la]; exact ha
    refine roIx_lv t.lvR (map_ref_get hars) (roIx_cell (t.row ha) (by rw [t.rlen ha]; exact hn) ?_)
    have ep : (A.getD a []).getD a 0 = ent A a a := rfl
    rw [ep]
    have ok0 := ok.p0
    have okr := ok.r
    have okc := ok.c
    simp only [roAdd]
    refine ⟨⟨by omega, by omega, by omega, by omega⟩, ?_⟩
    have e1 : (fun n : Nat => D.int ((a : Int) + 1 + (n : Int))) = fun n : Nat => D.int ((a + 1 + n : Nat) : Int) := by
      funext x
      congr 1
    have e2 : ((A.length : Int) - ((a : Int) + 1)).toNat = A.length - (a + 1) := by omega
    have e3 : ((n : Int) - ((a : Int) + 1)).toNat = n - (a + 1) := by omega
    rw [e1, e2]
    unfold clA at hk
    generalize hp : ent A a a = p at hk ok0 okr okc ⊢
    generalize hm : A.length - (a + 1) = mm at hk okc ⊢
    refine for_range _ _ (fun i ε μ' => ∃ rs', TS Ct μ0 N R Uc rs' us (rowPh p a A i) U n μ' ∧ ∃ o3 o4 o5 o6 o7, ε = [some (D.ref N), some (D.int (a : Nat)), some (D.int p), o3, o4, o5, o6, o7]) (fun i ε μ' k' hi hJ hk' => ?_) (fun ε μ' hJ => ?_) ⟨rs, t, _, _, _, _, _, rfl⟩
    · obtain ⟨rs', t', o3, o4, o5, o6, o7, rfl⟩ := hJ
      have hil : a + 1 + i < (rowPh p a A i).length := by rw [rowPh_length]; omega
      have hal : a < (rowPh p a A i).length := by rw [rowPh_length]; omega
      have hrs : a + 1 + i < rs'.length := by rw [t'.la]; exact hil
      have hra : a < rs'.length := by rw [t'.la]; exact hal
      simp only [wRet, wRetN, wLc, wLcC, wIZip, wIEnum, wISeq, wIRng1, wIRng2, wCons, wVar, wNil, wSeq, wSet, wAsg, wPar, wIf, wTest, wNext, wDrop, wOp, wUn, wCB, wC, wFor, wAug, wAugL, wAugS, wTup, wLst, wLstC, wNot, wAnd, wOr, wAndV, wOrV, wIfE, wCall, wYes, wgName, wgTup, wgsCons, wgsNil, wgSub, wM, wFrz, wDGet, wDIn, wDPut, wDNew, wRevT, wSl, wPart, wNoPart, wWhile, wSKey, wLcM, wLcD, wLcDC, wIZipD, wISeqD, wFld, wSFld, wMeth, wMake, wLc2, wStepL, wipeE, startE, List.map, List.length, List.cons_append, List.nil_append, List.append_nil, List.getElem?_cons_succ, List.getElem?_cons_zero, List.set_cons_succ, List.set_cons_zero, List.replicate, Nat.reduceAdd, Nat.reduceSub, if_true, if_false, Bool.false_eq_true, reduceIte, true_and, and_true, t'.iv, lk_rows]
      refine roIx_lv t'.lvR (map_ref_get hrs) (roIx_lv t'.lvR (map_ref_get hrs) (roIx_cell (t'.row hil) (by rw [t'.rlen hil]; exact hn) ?_))
      have ei : ((rowPh p a A i).getD (a + 1 + i) []).getD a 0 = ent (rowPh p a A i) (a + 1 + i) a := rfl
      rw [ei]
      refine ⟨ok0, roIx_lv t'.lvR (map_ref_get hra) ?_⟩
      refine ⟨_, _, _, _, _, rfl, t'.row hil, t'.row hal, fun y hy => okr i (by omega) y (by rw [rowPh_at] at hy; exact hy), by rw [t'.rlen hil]; omega, ?_⟩
      generalize hrow : lessL ((rowPh p a A i).getD (a + 1 + i) []) ((ent (rowPh p a A i) (a + 1 + i) a).fdiv p) ((rowPh p a A i).getD a []) = row
      have hrl : row.length = n := by rw [← hrow, lessL_length (by rw [t'.rlen hil, t'.rlen hal]), t'.rlen hil]
      have t2 := t'.repl hil hrl
      have tj := t'.junk [cellR row]
      simp only [tj.iv, lk_rows]
      refine soSetL_row tj.r (by rw [List.length_map]; exact hrs) ?_
      have es : (rs'.map D.ref).set (a + 1 + i) (D.ref μ'.length) = (rs'.set (a + 1 + i) μ'.length).map D.ref := by rw [List.map_set]
      rw [es]
      refine hk' _ _ ⟨rs'.set (a + 1 + i) μ'.length, ?_, _, _, _, _, _, rfl⟩
      have e4 : rowPh p a A (i + 1) = (rowPh p a A i).set (a + 1 + i) row := by rw [← hrow]; rfl
      rw [e4]
      exact t2
    · obtain ⟨rs1, t1, o3, o4, o5, o6, o7, rfl⟩ := hJ
      generalize hA1 : rowPh p a A mm = A1 at hk okc t1
      have hl1 : A1.length = A.length := by rw [← hA1, rowPh_length]
      have ha1 : a < A1.length := by omega
      simp only [wRet, wRetN, wLc, wLcC, wIZip, wIEnum, wISeq, wIRng1, wIRng2, wCons, wVar, wNil, wSeq, wSet, wAsg, wPar, wIf, wTest, wNext, wDrop, wOp, wUn, wCB, wC, wFor, wAug, wAugL, wAugS, wTup, wLst, wLstC, wNot, wAnd, wOr, wAndV, wOrV, wIfE, wCall, wYes, wgName, wgTup, wgsCons, wgsNil, wgSub, wM, wFrz, wDGet, wDIn, wDPut, wDNew, wRevT, wSl, wPart, wNoPart, wWhile, wSKey, wLcM, wLcD, wLcDC, wIZipD, wISeqD, wFld, wSFld, wMeth, wMake, wLc2, wStepL, wipeE, startE, List.map, List.length, List.cons_append, List.nil_append, List.append_nil, List.getElem?_cons_succ, List.getElem?_cons_zero, List.set_cons_succ, List.set_cons_zero, List.replicate, Nat.reduceAdd, Nat.reduceSub, if_true, if_false, Bool.false_eq_true, reduceIte, true_and, and_true, t1.iv, lk_width, roAdd]
      refine ⟨⟨by omega, by omega, by omega, by omega⟩, ?_⟩
      rw [e1, e3]
      generalize hnn : n - (a + 1) = nn at hk ⊢
      refine for_range _ _ (fun i ε μ' => TS Ct μ0 N R Uc rs1 us (colPh p a A1 U i).1 (colPh p a A1 U i).2 n μ' ∧ ∃ o3 o4 o5 o6 o7, ε = [some (D.ref N), some (D.int (a : Nat)), some (D.int p), o3, o4, o5, o6, o7]) (fun i ε μ' k' hi hJ hk' => ?_) (fun ε μ' hJ => ?_) ⟨t1, _, _, _, _, _, rfl⟩
      · obtain ⟨t', o3, o4, o5, o6, o7, rfl⟩ := hJ
        have hlen := colPh_len p a A1 U i
        have hal : a < (colPh p a A1 U i).1.length := by omega
        have hra : a < rs1.length := by rw [t'.la]; exact hal
        have hin : a + 1 + i < n := by omega
        simp only [wRet, wRetN, wLc, wLcC, wIZip, wIEnum, wISeq, wIRng1, wIRng2, wCons, wVar, wNil, wSeq, wSet, wAsg, wPar, wIf, wTest, wNext, wDrop, wOp, wUn, wCB, wC, wFor, wAug, wAugL, wAugS, wTup, wLst, wLstC, wNot, wAnd, wOr, wAndV, wOrV, wIfE, wCall, wYes, wgName, wgTup, wgsCons, wgsNil, wgSub, wM, wFrz, wDGet, wDIn, wDPut, wDNew, wRevT, wSl, wPart, wNoPart, wWhile, wSKey, wLcM, wLcD, wLcDC, wIZipD, wISeqD, wFld, wSFld, wMeth, wMake, wLc2, wStepL, wipeE, startE, List.map, List.length, List.cons_append, List.nil_append, List.append_nil, List.getElem?_cons_succ, List.getElem?_cons_zero, List.set_cons_succ, List.set_cons_zero, List.replicate, Nat.reduceAdd, Nat.reduceSub, if_true, if_false, Bool.false_eq_true, reduceIte, true_and, and_true, t'.iv, lk_rows]
        refine roIx_lv t'.lvR (map_ref_get hra) (roIx_cell (t'.row hal) (by rw [t'.rlen hal]; exact hin) ⟨ok0, rfl, ?_⟩)
        refine ⟨μ0, N, R, Uc, rs1, us, _, _, n, rfl, t', ?_⟩
        dsimp only
        generalize hf : (((colPh p a A1 U i).1.getD a []).getD (a + 1 + i) 0).fdiv p = ff
        refine for_tables (fun ε => ∃ o5 o7, ε = [some (D.ref N), some (D.int (a : Nat)), some (D.int p), o3, some (D.int ((a + 1 + i : Nat) : Int)), o5, some (D.int ff), o7]) (colF a (a + 1 + i) ff) (fun row h => by rw [colF_length]; exact h) t' (fun x row ε μ'' k2 hrm hx hl hsh hk2 => ?_) (fun ε μ'' hsh t2 => ?_) ⟨_, _, rfl⟩
        · obtain ⟨o5, o7, rfl⟩ := hsh
          simp only [wRet, wRetN, wLc, wLcC, wIZip, wIEnum, wISeq, wIRng1, wIRng2, wCons, wVar, wNil, wSeq, wSet, wAsg, wPar, wIf, wTest, wNext, wDrop, wOp, wUn, wCB, wC, wFor, wAug, wAugL, wAugS, wTup, wLst, wLstC, wNot, wAnd, wOr, wAndV, wOrV, wIfE, wCall, wYes, wgName, wgTup, wgsCons, wgsNil, wgSub, wM, wFrz, wDGet, wDIn, wDPut, wDNew, wRevT, wSl, wPart, wNoPart, wWhile, wSKey, wLcM, wLcD, wLcDC, wIZipD, wISeqD, wFld, wSFld, wMeth, wMake, wLc2, wStepL, wipeE, startE, List.map, List.length, List.cons_append, List.nil_append, List.append_nil, List.getElem?_cons_succ, List.getElem?_cons_zero, List.set_cons_succ, List.set_cons_zero, List.replicate, Nat.reduceAdd, Nat.reduceSub, if_true, if_false, Bool.false_eq_true, reduceIte, true_and, and_true]
          have hlv : lview μ'' (.ref x) = some (row.map D.int) := by simp only [lview, hx, cellR]
          have hat : atI (row.map D.int) ((a + 1 + i : Nat) : Int) = some (.int (row.getD (a + 1 + i) 0)) := by
            rw [atI_nat (by rw [List.length_map]; omega)]
            simp [hl, hin]
          simp only [roIxL, hlv, hat]
          refine roIx_cell hx (by omega) ?_
          simp only [roMul, roI0]
          refine ⟨?_, ?_⟩
          · have := okc i hin A1 rfl row hrm
            rw [← hf]
            exact this
          · refine soSetL_row hx (by rw [List.length_map]; omega) ?_
            have es : (row.map D.int).set (a + 1 + i) (D.int (row.getD (a + 1 + i) 0 - ff * row.getD a 0)) = (colF a (a + 1 + i) ff row).map D.int := by simp [colF, List.map_set]
            rw [es]
            exact hk2 _ ⟨_, _, rfl⟩
        · obtain ⟨o5, o7, rfl⟩ := hsh
          refine hk' _ _ ⟨?_, _, _, _, _, _, rfl⟩
          have e5 : (colPh p a A1 U (i + 1)) = ((colPh p a A1 U i).1.map (colF a (a + 1 + i) ff), (colPh p a A1 U i).2.map (colF a (a + 1 + i) ff)) := by rw [← hf]; rfl
          rw [e5]
          exact t2
      · obtain ⟨t2, o3, o4, o5, o6, o7, rfl⟩ := hJ
        generalize hA2 : colPh p a A1 U nn = AU at hk t2
        have hl2 : AU.1.length = A.length := by rw [← hA2, (colPh_len p a A1 U nn).1, hl1]
        have ha2 : a < AU.1.length := by omega
        have hra : a < rs1.length := by rw [t2.la]; exact ha2
        simp only [wRet, wRetN, wLc, wLcC, wIZip, wIEnum, wISeq, wIRng1, wIRng2, wCons, wVar, wNil, wSeq, wSet, wAsg, wPar, wIf, wTest, wNext, wDrop, wOp, wUn, wCB, wC, wFor, wAug, wAugL, wAugS, wTup, wLst, wLstC, wNot, wAnd, wOr, wAndV, wOrV, wIfE, wCall, wYes, wgName, wgTup, wgsCons, wgsNil, wgSub, wM, wFrz, wDGet, wDIn, wDPut, wDNew, wRevT, wSl, wPart, wNoPart, wWhile, wSKey, wLcM, wLcD, wLcDC, wIZipD, wISeqD, wFld, wSFld, wMeth, wMake, wLc2, wStepL, wipeE, startE, List.map, List.length, List.cons_append, List.nil_append, List.append_nil, List.getElem?_cons_succ, List.getElem?_cons_zero, List.set_cons_succ, List.set_cons_zero, List.replicate, Nat.reduceAdd, Nat.reduceSub, if_true, if_false, Bool.false_eq_true, reduceIte, true_and, and_true, t2.iv, lk_many, roAdd]
        refine ⟨⟨by omega, by omega, by omega, by omega⟩, ?_⟩
        rw [hl2, e1, e2, hm]
        refine lc_all _ (fun i : Nat => D.int (ent AU.1 (a + 1 + i) a)) _ (fun i hi acc Rr hacc hR => ?_) (by simp only [List.length_range, sizeLine]; omega) ?_
        · have hi : a + 1 + i < AU.1.length := by have := List.mem_range.mp hi; omega
          have hrs : a + 1 + i < rs1.length := by rw [t2.la]; exact hi
          simp only [wRet, wRetN, wLc, wLcC, wIZip, wIEnum, wISeq, wIRng1, wIRng2, wCons, wVar, wNil, wSeq, wSet, wAsg, wPar, wIf, wTest, wNext, wDrop, wOp, wUn, wCB, wC, wFor, wAug, wAugL, wAugS, wTup, wLst, wLstC, wNot, wAnd, wOr, wAndV, wOrV, wIfE, wCall, wYes, wgName, wgTup, wgsCons, wgsNil, wgSub, wM, wFrz, wDGet, wDIn, wDPut, wDNew, wRevT, wSl, wPart, wNoPart, wWhile, wSKey, wLcM, wLcD, wLcDC, wIZipD, wISeqD, wFld, wSFld, wMeth, wMake, wLc2, wStepL, wipeE, startE, List.map, List.length, List.cons_append, List.nil_append, List.append_nil, List.getElem?_cons_succ, List.getElem?_cons_zero, List.set_cons_succ, List.set_cons_zero, List.replicate, Nat.reduceAdd, Nat.reduceSub, if_true, if_false, Bool.false_eq_true, reduceIte, true_and, and_true, t2.iv, lk_rows]
          exact roIx_lv t2.lvR (map_ref_get hrs) (roIx_cell (t2.row hi) (by rw [t2.rlen hi]; exact hn) ⟨hacc, hR⟩)
        · have ea : AU.1.getD a [] = (AU.1.getD a []) := rfl
          simp only [wRet, wRetN, wLc, wLcC, wIZip, wIEnum, wISeq, wIRng1, wIRng2, wCons, wVar, wNil, wSeq, wSet, wAsg, wPar, wIf, wTest, wNext, wDrop, wOp, wUn, wCB, wC, wFor, wAug, wAugL, wAugS, wTup, wLst, wLstC, wNot, wAnd, wOr, wAndV, wOrV, wIfE, wCall, wYes, wgName, wgTup, wgsCons, wgsNil, wgSub, wM, wFrz, wDGet, wDIn, wDPut, wDNew, wRevT, wSl, wPart, wNoPart, wWhile, wSKey, wLcM, wLcD, wLcDC, wIZipD, wISeqD, wFld, wSFld, wMeth, wMake, wLc2, wStepL, wipeE, startE, List.map, List.length, List.cons_append, List.nil_append, List.append_nil, List.getElem?_cons_succ, List.getElem?_cons_zero, List.set_cons_succ, List.set_cons_zero, List.replicate, Nat.reduceAdd, Nat.reduceSub, if_true, if_false, Bool.false_eq_true, reduceIte, true_and, and_true, t2.iv, lk_rows]
          refine roIx_lv t2.lvR (map_ref_get hra) ?_
          have hlv : lview μ' (.ref (rs1.getD a 0)) = some ((AU.1.getD a []).map D.int) := by simp only [lview, t2.row ha2, cellR]
          have hcut : cutD ((AU.1.getD a []).map D.int) (some ((a : Int) + 1)) none = ((List.range nn).map fun i => ent AU.1 a (a + 1 + i)).map D.int := by
            have e7 : ((a : Int) + 1) = ((a + 1 : Nat) : Int) := by omega
            have h1 : HT.sIx ((AU.1.getD a []).map D.int).length 0 (some ((a + 1 : Nat) : Int)) = a + 1 := by rw [HT.sIx_nat, List.length_map, t2.rlen ha2]; omega
            have h2 : HT.sIx ((AU.1.getD a []).map D.int).length ((AU.1.getD a []).map D.int).length none = ((AU.1.getD a []).map D.int).length := rfl
            unfold cutD
            rw [e7, h1, h2, List.take_of_length_le (by simp), ← List.map_drop]
            congr 1
            apply List.ext_getElem
            · rw [List.length_drop, t2.rlen ha2, List.length_map, List.length_range]; omega
            · intro i q1 q2
              simp only [List.getElem_drop, List.getElem_map, List.getElem_range, ent]
              rw [List.getD_eq_getElem?_getD (l := AU.1.getD a []), List.getElem?_eq_getElem]
              rfl
          simp only [soAll, hlv, hcut, lviewM]
          refine ⟨by simp only [List.length_map, List.length_range, sizeLine]; omega, ?_⟩
          have ej : (List.range mm).map (fun i => D.int (ent AU.1 (a + 1 + i) a)) ++ ((List.range nn).map fun i => ent AU.1 a (a + 1 + i)).map D.int = ((List.range mm).map (fun i => ent AU.1 (a + 1 + i) a) ++ (List.range nn).map fun i => ent AU.1 a (a + 1 + i)).map D.int := by
            rw [List.map_append, List.map_map (f := fun i => ent AU.1 (a + 1 + i) a)]; rfl
          rw [ej]
          refine lc_all D.int (fun x => D.bl (decide (x = 0))) _ (fun x hx acc Rr hacc hR => ?_) (by simp only [List.length_append, List.length_map, List.length_range, sizeLine]; omega) ?_
          · simp only [wRet, wRetN, wLc, wLcC, wIZip, wIEnum, wISeq, wIRng1, wIRng2, wCons, wVar, wNil, wSeq, wSet, wAsg, wPar, wIf, wTest, wNext, wDrop, wOp, wUn, wCB, wC, wFor, wAug, wAugL, wAugS, wTup, wLst, wLstC, wNot, wAnd, wOr, wAndV, wOrV, wIfE, wCall, wYes, wgName, wgTup, wgsCons, wgsNil, wgSub, wM, wFrz, wDGet, wDIn, wDPut, wDNew, wRevT, wSl, wPart, wNoPart, wWhile, wSKey, wLcM, wLcD, wLcDC, wIZipD, wISeqD, wFld, wSFld, wMeth, wMake, wLc2, wStepL, wipeE, startE, List.map, List.length, List.cons_append, List.nil_append, List.append_nil, List.getElem?_cons_succ, List.getElem?_cons_zero, List.set_cons_succ, List.set_cons_zero, List.replicate, Nat.reduceAdd, Nat.reduceSub, if_true, if_false, Bool.false_eq_true, reduceIte, true_and, and_true, roEq]
            exact ⟨hacc, hR⟩
          · have e8 : ∀ l : List Int, l.map (fun x => D.bl (decide (x = 0))) = (l.map fun x => decide (x = 0)).map D.bl := fun l => by rw [List.map_map]; rfl
            rw [e8]
            simp only [coAll, listArg, lview, Option.bind, blsD_map]
            have e9 : (((List.range mm).map (fun i => ent AU.1 (a + 1 + i) a) ++ (List.range nn).map fun i => ent AU.1 a (a + 1 + i)).map fun x => decide (x = 0)).all id = clB AU.1 a n := by
              unfold clB
              rw [hl2, hm, hnn, List.map_append, List.all_append, List.map_map, List.map_map, List.all_map, List.all_map]
              rfl
            rw [e9]
            exact gc_id (hk _ _ t2)
end
end K86
namespace K86
open PySem PySem.Spec L2 WL
/-! turn -/
structure TurnInv (n m : Nat) (G : Nat → Nat → List Row → List Row → Prop) : Prop where
  len : ∀ q a A U, G q a A U → A.length = m ∧ a ≤ m
  step : ∀ q a A U, G q a A U → a < m → a < n ∧ (∃ i j, a ≤ i ∧ i < m ∧ a ≤ j ∧ j < n ∧ ent A i j ≠ 0) ∧ ∀ r c, LeastAt A a m n r c → ClOk (brA A a r c) (brU U a c) a n ∧
    ∀ A' U', (A', U') = clA (brA A a r c) (brU U a c) a n → ∃ q', q' < q ∧ G q' (if clB A' a n = true then a + 1 else a) A' U'
theorem brA_length (A : List Row) (a r c : Nat) : (brA A a r c).length = A.length := by simp [brA, swp]
section
variable {P : Program} {w : World} {K : PySem.W.Frag} {mg : Str → Option Value} {base : Heap} {T : List (Addr × Str)} {c Pt : Addr}
variable {Ct : Addr}
def fsTurn (Ct : Addr) : FS := fun ds μ k => ∃ μ0 N R Uc rs us A U n G q, ds = [.ref N] ∧ TS Ct μ0 N R Uc rs us A U n μ ∧ A.length ≤ 20 ∧ n ≤ 20 ∧ TurnInv n A.length G ∧ G q 0 A U ∧
  ∀ μ' rs' A' U' q', TS Ct μ0 N R Uc rs' us A' U' n μ' → G q' A.length A' U' → k .non μ'
theorem cm_turn (Z : Zs mg) (Dm : DefM K Ct "turn" "Turner.turn" s_Turner_turn ["self"]) (Cl_Turner : Cls K Ct) (A_many : NoAttr K Ct "many")
    (CM_least_place : CalM P w K mg base T 1 Ct "least_place" (fsLeast Ct)) (CM_bring : CalM P w K mg base T 2 Ct "bring" (fsBring Ct)) (CM_clear : CalM P w K mg base T 2 Ct "clear" (fsClear Ct)) : CalM P w K mg base T 3 Ct "turn" (fsTurn Ct) := by
  refine cal_m Dm sc_Turner_turn (fun ds μ k h => ?_) (fun f cdv A outer s H E hr => ⟨_, (b_cons (s_set 1 sc_Turner_turn.nd e_int)
  (b_one (s_while PySem.PassesOwn.never (t_cmp op_lt ok_lt (e_var 1) (e_fld Cl_Turner A_many (e_var 0))) (b_cons (s_asg (e_meth CM_least_place hr (by decide) Cl_Turner (e_var 0) (a_cons (e_var 1) a_nil)) (g_tup (n := 2) rfl (gs_cons (g_name 2 sc_Turner_turn.nd) (gs_cons (g_name 3 sc_Turner_turn.nd) gs_nil))))
  (b_cons (s_expr (e_meth CM_bring hr (by decide) Cl_Turner (e_var 0) (a_cons (e_var 1) (a_cons (e_var 2) (a_cons (e_var 3) a_nil)))))
  (b_one (s_if (t_val (e_meth CM_clear hr (by decide) Cl_Turner (e_var 0) (a_cons (e_var 1) a_nil))) (b_one (s_aug 1 sc_Turner_turn.nd e_int ip_add ok_ipadd)) b_nil))))))), ?_⟩)
  · obtain ⟨μ0, N, R, Uc, rs, us, A, U, n, G, q, rfl, _⟩ := h
    rfl
  · intro ds μ k h
    obtain ⟨μ0, N, R, Uc, rs, us, A, U, n, G, q, rfl, t, hm20, hn20, inv, hG, hk⟩ := h
    simp only [wRet, wRetN, wLc, wLcC, wIZip, wIEnum, wISeq, wIRng1, wIRng2, wCons, wVar, wNil, wSeq, wSet, wAsg, wPar, wIf, wTest, wNext, wDrop, wOp, wUn, wCB, wC, wFor, wAug, wAugL, wAugS, wTup, wLst, wLstC, wNot, wAnd, wOr, wAndV, wOrV, wIfE, wCall, wYes, wgName, wgTup, wgsCons, wgsNil, wgSub, wM, wFrz, wDGet, wDIn, wDPut, wDNew, wRevT, wSl, wPart, wNoPart, wWhile, wSKey, wLcM, wLcD, wLcDC, wIZipD, wISeqD, wFld, wSFld, wMeth, wMake, wLc2, wStepL, wipeE, startE, N_Turner_turn, List.map, List.length, List.cons_append, List.nil_append, List.append_nil, List.getElem?_cons_succ, List.getElem?_cons_zero, List.set_cons_succ, List.set_cons_zero, List.replicate, Nat.reduceAdd, Nat.reduceSub, if_true, if_false, Bool.false_eq_true, reduceIte, true_and, and_true]
    refine ⟨fun q ε μ' => ∃ a A' U' rs', G q a A' U' ∧ TS Ct μ0 N R Uc rs' us A' U' n μ' ∧ ∃ o2 o3, ε = [some (D.ref N), some (D.int (a : Nat)), o2, o3], ⟨q, 0, A, U, rs, hG, t, _, _, rfl⟩, fun q ε μ' hJ => ?_⟩
    obtain ⟨a, A', U', rs', hG, t', o2, o3, rfl⟩ := hJ
    obtain ⟨hl, ham⟩ := inv.len _ _ _ _ hG
    simp only [wRet, wRetN, wLc, wLcC, wIZip, wIEnum, wISeq, wIRng1, wIRng2, wCons, wVar, wNil, wSeq, wSet, wAsg, wPar, wIf, wTest, wNext, wDrop, wOp, wUn, wCB, wC, wFor, wAug, wAugL, wAugS, wTup, wLst, wLstC, wNot, wAnd, wOr, wAndV, wOrV, wIfE, wCall, wYes, wgName, wgTup, wgsCons, wgsNil, wgSub, wM, wFrz, wDGet, wDIn, wDPut, wDNew, wRevT, wSl, wPart, wNoPart, wWhile, wSKey, wLcM, wLcD, wLcDC, wIZipD, wISeqD, wFld, wSFld, wMeth, wMake, wLc2, wStepL, wipeE, startE, List.map, List.length, List.cons_append, List.nil_append, List.append_nil, List.getElem?_cons_succ, List.getElem?_cons_zero, List.set_cons_succ, List.set_cons_zero, List.replicate, Nat.reduceAdd, Nat.reduceSub, if_true, if_false, Bool.false_eq_true, reduceIte, true_and, and_true, t'.iv, lk_many, roLt, roI0]
    by_cases h : a < A'.length
    · have hd : decide ((a : Int) < (A'.length : Nat)) = true := by simpa using h
      simp only [hd, if_true]
      obtain ⟨han, hex, hst⟩ := inv.step _ _ _ _ hG (by omega)
      refine ⟨rfl, μ0, N, R, Uc, rs', us, A', U', n, a, rfl, t', by omega, hn20, by rw [hl]; exact hex, fun r c hL => ?_⟩
      rw [hl] at hL
      obtain ⟨ok, hnx⟩ := hst r c hL
      simp only [t'.iv]
      refine ⟨rfl, rfl, μ0, N, R, Uc, rs', us, A', U', n, a, r, c, rfl, t', by omega, by rw [hl]; exact hL.rm, han, hL.cn, fun μ2 rs2 t2 => ?_⟩
      simp only [t2.iv, brA_length]
      refine ⟨rfl, μ0, N, R, Uc, rs2, us, _, _, n, a, rfl, t2, by rw [brA_length]; omega, han, by rw [brA_length]; omega, hn20, ok, fun μ3 rs3 t3 => ?_⟩
      generalize clA (brA A' a r c) (brU U' a c) a n = AU at t3 hnx ⊢
      obtain ⟨q', hq, hG'⟩ := hnx AU.1 AU.2 rfl
      dsimp only
      by_cases hb : clB AU.1 a n = true
      · rw [if_pos hb] at hG' ⊢
        exact ⟨q', hq, a + 1, _, _, rs3, hG', t3, _, _, rfl⟩
      · rw [if_neg hb] at hG' ⊢
        exact ⟨q', hq, a, _, _, rs3, hG', t3, _, _, rfl⟩
    · have hd : decide ((a : Int) < (A'.length : Nat)) = false := by simpa using h
      simp only [hd, Bool.false_eq_true, if_false]
      have e : a = A.length := by omega
      rw [e] at hG
      exact gc_id (hk _ _ _ _ _ t' hG)
end
end K86
namespace K86
open PySem PySem.Spec L2 WL
/-! __init__ -/
def unitR (n a : Nat) : Row := (List.range n).map fun k => if k = a then 1 else 0
def idm (n : Nat) : List Row := (List.range n).map (unitR n)
theorem iv0 {Ct : Addr} {μ0 ν : Mem} {fs : List (Str × D)} : iview Ct (μ0 ++ .ins Ct fs :: ν) (.ref μ0.length) = some fs := by
  simp only [iview, List.getElem?_append_right (Nat.le_refl _), Nat.sub_self, List.getElem?_cons_zero, if_true]
theorem set0 {μ0 ν : Mem} {c c' : Cell} : (μ0 ++ c :: ν).set μ0.length c' = μ0 ++ c' :: ν := by
  rw [List.set_append_right _ _ (Nat.le_refl _), Nat.sub_self, List.set_cons_zero]
theorem len0 {μ0 ν : Mem} {c : Cell} : (μ0 ++ c :: ν).length = μ0.length + 1 + ν.length := by
  rw [List.length_append, List.length_cons]; omega
theorem put1 {x : D} : putD "rows" x [] = [(("rows" : Str), x)] := rfl
theorem put2 {x y : D} : putD "many" y [(("rows" : Str), x)] = [(("rows" : Str), x), (("many" : Str), y)] := rfl
theorem put3 {x y z : D} : putD "width" z [(("rows" : Str), x), (("many" : Str), y)] = [(("rows" : Str), x), (("many" : Str), y), (("width" : Str), z)] := rfl
theorem put4 {x y z u : D} : putD "unit" u [(("rows" : Str), x), (("many" : Str), y), (("width" : Str), z)] = [(("rows" : Str), x), (("many" : Str), y), (("width" : Str), z), (("unit" : Str), u)] := rfl
theorem lkp1 {x : D} : List.lookup ("rows" : Str) [(("rows" : Str), x)] = some x := rfl
theorem lkp3 {x y z : D} : List.lookup ("width" : Str) [(("rows" : Str), x), ("many", y), ("width", z)] = some z := rfl
theorem unitR_length (n a : Nat) : (unitR n a).length = n := by simp [unitR]
theorem idm_length (n : Nat) : (idm n).length = n := by simp [idm]
/-- the state as __init__ leaves it -/
theorem TS.made {Ct : Addr} {μ0 : Mem} {B : List Row} {n : Nat} (hB : B.length ≤ 20) (hn : n ≤ 20) (hrow : ∀ r ∈ B, r.length = n) :
    TS Ct μ0 μ0.length (μ0.length + 1 + B.length) (μ0.length + 2 + B.length + n) ((List.range B.length).map fun j => μ0.length + 1 + j) ((List.range n).map fun j => μ0.length + 2 + B.length + j) B (idm n) n
      (μ0 ++ .ins Ct (tfs (μ0.length + 1 + B.length) (μ0.length + 2 + B.length + n) B.length n) :: (B.map cellR ++ [.lst ((List.range B.length).map fun j => D.ref (μ0.length + 1 + j))] ++ (idm n).map cellR ++ [.lst ((List.range n).map fun j => D.ref (μ0.length + 2 + B.length + j))])) where
  fr := by simp
  lo := fun x hx => by
    simp only [List.mem_cons, List.mem_append, List.mem_map, List.mem_range] at hx
    rcases hx with h | h | h | ⟨j, hj, h⟩ | ⟨j, hj, h⟩ <;> omega
  nd := by
    simp only [List.nodup_cons, List.mem_cons, List.mem_append, List.mem_map, List.mem_range, not_or, not_exists, not_and, List.nodup_append]
    refine ⟨⟨by omega, by omega, fun j hj => by omega, fun j hj => by omega⟩, ⟨by omega, fun j hj => by omega, fun j hj => by omega⟩, ⟨fun j hj => by omega, fun j hj => by omega⟩, ?_, ?_, ?_⟩
    · exact List.Pairwise.map _ (fun a b (h : a ≠ b) e => h (by omega)) List.nodup_range
    · exact List.Pairwise.map _ (fun a b (h : a ≠ b) e => h (by omega)) List.nodup_range
    · rintro x ⟨i, hi, rfl⟩ y ⟨j, hj, rfl⟩
      omega
  i := by rw [List.getElem?_append_right (Nat.le_refl _), Nat.sub_self]; rfl
  r := by
    rw [List.getElem?_append_right (by omega), show μ0.length + 1 + B.length - μ0.length = B.length + 1 by omega, List.getElem?_cons_succ, List.append_assoc, List.append_assoc, List.getElem?_append_right (by simp)]
    simp
  u := by
    rw [List.getElem?_append_right (by omega), show μ0.length + 2 + B.length + n - μ0.length = (B.length + n + 1) + 1 by omega, List.getElem?_cons_succ, List.getElem?_append_right (by simp [idm_length]; omega)]
    have : B.length + n + 1 - (List.map cellR B ++ [Cell.lst ((List.range B.length).map fun j => D.ref (μ0.length + 1 + j))] ++ List.map cellR (idm n)).length = 0 := by simp [idm_length]; omega
    rw [this]
    simp
  la := by simp
  lu := by simp [idm_length]
  c := fun j x row h1 h2 => by
    by_cases hj : j < B.length
    · rw [List.getElem?_append_left (by simpa using hj)] at h1
      rw [List.getElem?_append_left hj] at h2
      simp [hj] at h1
      subst h1
      rw [List.getElem?_append_right (by omega), show μ0.length + 1 + j - μ0.length = j + 1 by omega, List.getElem?_cons_succ, List.append_assoc, List.append_assoc, List.getElem?_append_left (by simpa using hj), List.getElem?_map, h2]
      rfl
    · rw [List.getElem?_append_right (by simp; omega)] at h1
      rw [List.getElem?_append_right (by omega)] at h2
      simp only [List.length_map, List.length_range] at h1
      have hjn : j - B.length < n := by
        have := (List.getElem?_eq_some_iff.mp h2).1
        rwa [idm_length] at this
      simp [hjn] at h1
      subst h1
      rw [List.getElem?_append_right (by omega), show μ0.length + 2 + B.length + (j - B.length) - μ0.length = (j + 1) + 1 by omega, List.getElem?_cons_succ, List.getElem?_append_left (by simp [idm_length]; omega), List.getElem?_append_right (by simp; omega)]
      simp only [List.length_append, List.length_map, List.length_singleton]
      rw [show j + 1 - (B.length + 1) = j - B.length by omega, List.getElem?_map, h2]
      rfl
  wa := fun r hr => by
    rcases List.mem_append.mp hr with h | h
    · exact hrow r h
    · obtain ⟨a, _, rfl⟩ := List.mem_map.mp h
      exact unitR_length n a
  sa := by omega
  su := by rw [idm_length]; omega
  sn := by omega
section
variable {P : Program} {w : World} {K : PySem.W.Frag} {mg : Str → Option Value} {base : Heap} {T : List (Addr × Str)} {c Pt : Addr}
variable {Ct : Addr}
def fsInit (Ct : Addr) : FS := fun ds μ k => ∃ (μ0 : Mem) (B : List Row) (n : Nat), ds = [.ref μ0.length, .tup (B.map rowT)] ∧ μ = μ0 ++ [.ins Ct []] ∧ 0 < B.length ∧ B.length ≤ 20 ∧ n ≤ 20 ∧ (∀ r ∈ B, r.length = n) ∧
  ∀ μ' R Uc rs us, TS Ct μ0 μ0.length R Uc rs us B (idm n) n μ' → k .non μ'
theorem ci_Turner (Z : Zs mg) (Di : DefI K mg Ct "Turner" "Turner.__init__" s_Turner___init__ ["self", "basis"]) (Cl_Turner : Cls K Ct) (A_rows : NoAttr K Ct "rows") (A_many : NoAttr K Ct "many") (A_width : NoAttr K Ct "width") (A_unit : NoAttr K Ct "unit") :
    CalI P w K mg base T 1 Ct "Turner" (fsInit Ct) := by
  refine cal_i Di sc_Turner___init__ (fun ds μ k h => ?_) (fun f cdv A outer s H E hr => ⟨_, (b_cons (s_fld Cl_Turner A_rows (e_var 0) (e_lcC rfl sc_Turner___init__.nd (i_seq (e_var 1)) (blkOk_by (N := N_Turner___init__) (sc := defScope s_Turner___init__) (own := [("row", 2)]) (by decide +kernel)) (fun _ _ _ _ _ => (g_name 2 sc_Turner___init__.nd)) (fun _ _ _ _ _ => ts_nil) (fun _ _ _ _ _ => (e_listC rfl Z.z_list (by decide +kernel) (a_cons (e_var 2) a_nil)))))
  (b_cons (s_fld Cl_Turner A_many (e_var 0) (e_callB cr_len ok_len rfl Z.z_len (by decide +kernel) (a_cons (e_fld Cl_Turner A_rows (e_var 0)) a_nil)))
  (b_cons (s_fld Cl_Turner A_width (e_var 0) (e_callB cr_len ok_len rfl Z.z_len (by decide +kernel) (a_cons (e_ix ix_seq ok_ix (e_var 1) e_int) a_nil)))
  (b_one (s_fld Cl_Turner A_unit (e_var 0) (e_lcC rfl sc_Turner___init__.nd (i_rng1 rfl Z.z_range (a_cons (e_fld Cl_Turner A_width (e_var 0)) a_nil)) (blkOk_by (N := N_Turner___init__) (sc := defScope s_Turner___init__) (own := [("at", 3)]) (by decide +kernel)) (fun _ _ _ _ _ => (g_name 3 sc_Turner___init__.nd)) (fun _ _ _ _ _ => ts_nil) (fun _ _ _ _ _ => (e_lcC rfl sc_Turner___init__.nd (i_rng1 rfl Z.z_range (a_cons (e_fld Cl_Turner A_width (e_var 0)) a_nil)) (blkOk_by (own := [("k", 4)]) (by kernel_rfl)) (fun _ _ _ _ _ => (g_name 4 sc_Turner___init__.nd)) (fun _ _ _ _ _ => ts_nil) (fun _ _ _ _ _ => (e_callTy call_int1 ok_int rfl Z.z_int (by decide +kernel) (a_cons (e_cmp (op_eqA hr.units) ok_eq (e_var 4) (e_var 3)) a_nil))))))))))), ?_⟩)
  · obtain ⟨μ0, B, n, rfl, _⟩ := h
    rfl
  · intro ds μ k h
    obtain ⟨μ0, B, n, rfl, rfl, hB0, hB20, hn20, hrow, hk⟩ := h
    simp only [wRet, wRetN, wLc, wLcC, wIZip, wIEnum, wISeq, wIRng1, wIRng2, wCons, wVar, wNil, wSeq, wSet, wAsg, wPar, wIf, wTest, wNext, wDrop, wOp, wUn, wCB, wC, wFor, wAug, wAugL, wAugS, wTup, wLst, wLstC, wNot, wAnd, wOr, wAndV, wOrV, wIfE, wCall, wYes, wgName, wgTup, wgsCons, wgsNil, wgSub, wM, wFrz, wDGet, wDIn, wDPut, wDNew, wRevT, wSl, wPart, wNoPart, wWhile, wSKey, wLcM, wLcD, wLcDC, wIZipD, wISeqD, wFld, wSFld, wMeth, wMake, wLc2, wStepL, wipeE, startE, N_Turner___init__, List.map, List.length, List.cons_append, List.nil_append, List.append_nil, List.getElem?_cons_succ, List.getElem?_cons_zero, List.set_cons_succ, List.set_cons_zero, List.replicate, Nat.reduceAdd, Nat.reduceSub, if_true, if_false, Bool.false_eq_true, reduceIte, true_and, and_true]
    refine lc_list rowT B (fun i acc μ' => acc = (List.range i).map (fun j => D.ref (μ0.length + 1 + j)) ∧ μ' = μ0 ++ .ins Ct [] :: (B.take i).map cellR) (fun i r acc μ' Rr hi hJ hR => ?_) (fun acc μ' hJ => ?_) ⟨rfl, rfl⟩
    · obtain ⟨rfl, rfl⟩ := hJ
      have hil := (List.getElem?_eq_some_iff.mp hi).1
      simp only [wRet, wRetN, wLc, wLcC, wIZip, wIEnum, wISeq, wIRng1, wIRng2, wCons, wVar, wNil, wSeq, wSet, wAsg, wPar, wIf, wTest, wNext, wDrop, wOp, wUn, wCB, wC, wFor, wAug, wAugL, wAugS, wTup, wLst, wLstC, wNot, wAnd, wOr, wAndV, wOrV, wIfE, wCall, wYes, wgName, wgTup, wgsCons, wgsNil, wgSub, wM, wFrz, wDGet, wDIn, wDPut, wDNew, wRevT, wSl, wPart, wNoPart, wWhile, wSKey, wLcM, wLcD, wLcDC, wIZipD, wISeqD, wFld, wSFld, wMeth, wMake, wLc2, wStepL, wipeE, startE, List.map, List.length, List.cons_append, List.nil_append, List.append_nil, List.getElem?_cons_succ, List.getElem?_cons_zero, List.set_cons_succ, List.set_cons_zero, List.replicate, Nat.reduceAdd, Nat.reduceSub, if_true, if_false, Bool.false_eq_true, reduceIte, true_and, and_true, wListC]
      have ht : ∀ μ : Mem, tview μ (rowT r) = some (r.map D.int) := fun μ => rfl
      rw [ht]
      refine ⟨by simp only [List.length_map, List.length_range, sizeLine]; omega, hR _ _ ⟨?_, ?_⟩⟩
      · rw [len0, List.range_succ, List.map_append, List.length_map, List.length_take, Nat.min_eq_left (by omega)]
        rfl
      · rw [List.take_add_one, hi, List.map_append, List.append_assoc, List.cons_append]
        rfl
    · obtain ⟨rfl, rfl⟩ := hJ
      rw [List.take_length]
      have hb0 : (B.map rowT)[0]? = some (rowT (B.getD 0 [])) := by simp [hB0]
      have hbl : (B.getD 0 []).length = n := hrow _ (by simp [hB0])
      simp only [List.append_assoc, List.cons_append, List.nil_append, iv0, set0, put1, put2, put3, lkp1, lkp3, len0, List.length_map]
      refine ⟨by decide, ?_⟩
      have hlv : ∀ (c : Cell) (ν : Mem), lview (μ0 ++ c :: (B.map cellR ++ .lst ((List.range B.length).map fun j => D.ref (μ0.length + 1 + j)) :: ν)) (.ref (μ0.length + 1 + B.length)) = some ((List.range B.length).map fun j => D.ref (μ0.length + 1 + j)) := by
        intro c ν
        have : (μ0 ++ c :: (B.map cellR ++ .lst ((List.range B.length).map fun j => D.ref (μ0.length + 1 + j)) :: ν))[μ0.length + 1 + B.length]? = some (.lst ((List.range B.length).map fun j => D.ref (μ0.length + 1 + j))) := by
          rw [List.getElem?_append_right (by omega), show μ0.length + 1 + B.length - μ0.length = B.length + 1 by omega, List.getElem?_cons_succ, List.getElem?_append_right (by simp)]
          simp
        simp only [lview, this]
      have hcl : ∀ {c : Cell} {ν : Mem} {k : D → Prop}, k (.int (B.length : Nat)) → coLen (μ0 ++ c :: (B.map cellR ++ .lst ((List.range B.length).map fun j => D.ref (μ0.length + 1 + j)) :: ν)) [.ref (μ0.length + 1 + B.length)] k := by
        intro c ν k hk
        simp only [coLen, hlv, List.length_map, List.length_range]
        exact hk
      refine hcl ⟨(by simp only [List.length_cons, List.length_nil]; omega), roIx_at (p := 0) (ds := B.map rowT) rfl hb0 (len_row (seqR_T _) ?_)⟩
      rw [hbl]
      refine ⟨(by simp only [List.length_cons, List.length_nil]; omega), by omega, by omega, ?_⟩
      generalize hrf : ((List.range B.length).map fun j => D.ref (μ0.length + 1 + j)) = rf at hlv ⊢
      rw [rng_to]
      refine lc_list (fun i : Nat => D.int (i : Int)) (List.range n) (fun i acc μ' => acc = (List.range i).map (fun j => D.ref (μ0.length + 2 + B.length + j)) ∧ μ' = μ0 ++ .ins Ct [("rows", D.ref (μ0.length + 1 + B.length)), ("many", D.int (B.length : Nat)), ("width", D.int (n : Nat))] :: (B.map cellR ++ [.lst rf] ++ ((List.range i).map (unitR n)).map cellR)) (fun i a acc μ' Rr hi hJ hR => ?_) (fun acc μ' hJ => ?_) ⟨rfl, by simp⟩
      · obtain ⟨rfl, rfl⟩ := hJ
        have hil : i < n := by have := (List.getElem?_eq_some_iff.mp hi).1; simpa using this
        have hia : a = i := by
          have := (List.getElem?_eq_some_iff.mp hi).2
          simpa using this.symm
        subst hia
        simp only [wRet, wRetN, wLc, wLcC, wIZip, wIEnum, wISeq, wIRng1, wIRng2, wCons, wVar, wNil, wSeq, wSet, wAsg, wPar, wIf, wTest, wNext, wDrop, wOp, wUn, wCB, wC, wFor, wAug, wAugL, wAugS, wTup, wLst, wLstC, wNot, wAnd, wOr, wAndV, wOrV, wIfE, wCall, wYes, wgName, wgTup, wgsCons, wgsNil, wgSub, wM, wFrz, wDGet, wDIn, wDPut, wDNew, wRevT, wSl, wPart, wNoPart, wWhile, wSKey, wLcM, wLcD, wLcDC, wIZipD, wISeqD, wFld, wSFld, wMeth, wMake, wLc2, wStepL, wipeE, startE, List.map, List.length, List.cons_append, List.nil_append, List.append_nil, List.getElem?_cons_succ, List.getElem?_cons_zero, List.set_cons_succ, List.set_cons_zero, List.replicate, Nat.reduceAdd, Nat.reduceSub, if_true, if_false, Bool.false_eq_true, reduceIte, true_and, and_true, iv0, lkp3]
        refine ⟨by omega, by omega, ?_⟩
        rw [rng_to]
        refine lc_all (fun i : Nat => D.int (i : Int)) (fun j : Nat => D.int (if j = a then 1 else 0)) (List.range n) (fun j hj acc R2 hacc hR2 => ?_) (by simp only [List.length_range, sizeLine]; omega) ?_
        · simp only [wRet, wRetN, wLc, wLcC, wIZip, wIEnum, wISeq, wIRng1, wIRng2, wCons, wVar, wNil, wSeq, wSet, wAsg, wPar, wIf, wTest, wNext, wDrop, wOp, wUn, wCB, wC, wFor, wAug, wAugL, wAugS, wTup, wLst, wLstC, wNot, wAnd, wOr, wAndV, wOrV, wIfE, wCall, wYes, wgName, wgTup, wgsCons, wgsNil, wgSub, wM, wFrz, wDGet, wDIn, wDPut, wDNew, wRevT, wSl, wPart, wNoPart, wWhile, wSKey, wLcM, wLcD, wLcDC, wIZipD, wISeqD, wFld, wSFld, wMeth, wMake, wLc2, wStepL, wipeE, startE, List.map, List.length, List.cons_append, List.nil_append, List.append_nil, List.getElem?_cons_succ, List.getElem?_cons_zero, List.set_cons_succ, List.set_cons_zero, List.replicate, Nat.reduceAdd, Nat.reduceSub, if_true, if_false, Bool.false_eq_true, reduceIte, true_and, and_true, roEq, coInt]
          have e7 : (if decide ((j : Int) = (a : Int)) = true then (1 : Int) else 0) = if j = a then 1 else 0 := by
            by_cases h : j = a
            · simp [h]
            · have : ¬ ((j : Int) = (a : Int)) := by omega
              simp [h, this]
          rw [e7]
          exact ⟨hacc, hR2⟩
        · refine ⟨by simp only [List.length_map, List.length_range, sizeLine]; omega, hR _ _ ⟨?_, ?_⟩⟩
          · rw [len0, List.range_succ, List.map_append]
            simp only [List.length_append, List.length_map, List.length_singleton, List.length_range, List.map_cons, List.map_nil]
            rw [show μ0.length + 1 + (B.length + 1 + a) = μ0.length + 2 + B.length + a by omega]
          · have e8 : Cell.lst ((List.range n).map fun j => D.int (if j = a then 1 else 0)) = cellR (unitR n a) := by simp [cellR, unitR, Function.comp]
            rw [e8, List.range_succ, List.map_append, List.map_append, List.append_assoc, List.cons_append, ← List.append_assoc]
            rfl
      · obtain ⟨rfl, rfl⟩ := hJ
        rw [List.length_range]
        have e9 : (List.range n).map (unitR n) = idm n := rfl
        rw [e9]
        simp only [List.append_assoc, List.cons_append, List.nil_append, iv0, set0, put4, len0, List.length_append, List.length_cons, List.length_map, idm_length]
        refine ⟨by decide, gc_id ?_⟩
        have t := TS.made (Ct := Ct) (μ0 := μ0) hB20 hn20 hrow
        rw [hrf] at t
        simp only [List.append_assoc, List.cons_append, List.nil_append] at t
        rw [show μ0.length + (B.length + (n + 1) + 1) = μ0.length + 2 + B.length + n by omega]
        exact hk _ _ _ _ _ t
end
end K86
namespace K86
open PySem PySem.Spec L2 WL
/-! checks, checks_of -/
def modAt (A : List Row) (j : Nat) : Int := if j < A.length then ((ent A j j).natAbs : Int) else 0
def chkAt (A U : List Row) (j : Nat) : Int × List Int := (modAt A j, U.map fun r => if modAt A j = 0 then r.getD j 0 else (r.getD j 0).fmod (modAt A j))
def checksL (A U : List Row) (n : Nat) : List (Int × List Int) := ((List.range n).filter fun j => decide (modAt A j ≠ 1)).map (chkAt A U)
def chkT (c : Int × List Int) : D := chkD c.1 c.2
theorem ifE_step {t : WT} {a b : WE} {ε : En} {μ : Mem} {k : D → En → Mem → Prop} {d : D} (h : ∀ k' : D → En → Mem → Prop, k' d ε μ → wIfE t a b ε μ k') (hk : k d ε μ) : wIfE t a b ε μ k := h k hk
section
variable {P : Program} {w : World} {K : PySem.W.Frag} {mg : Str → Option Value} {base : Heap} {T : List (Addr × Str)} {c Pt : Addr}
variable {Ct : Addr}
def fsChecks (Ct : Addr) : FS := fun ds μ k => ∃ μ0 N R Uc rs us A U n, ds = [.ref N] ∧ TS Ct μ0 N R Uc rs us A U n μ ∧ A.length ≤ n ∧ n ≤ 20 ∧ U.length ≤ 20 ∧ ∀ ν, k (.tup ((checksL A U n).map chkT)) (μ ++ ν)
theorem cm_checks (Z : Zs mg) (Dm : DefM K Ct "checks" "Turner.checks" s_Turner_checks ["self"]) (Cl_Turner : Cls K Ct) (A_rows : NoAttr K Ct "rows") (A_many : NoAttr K Ct "many") (A_width : NoAttr K Ct "width") (A_unit : NoAttr K Ct "unit") : CalM P w K mg base T 1 Ct "checks" (fsChecks Ct) := by
  refine cal_m Dm sc_Turner_checks (fun ds μ k h => ?_) (fun f cdv A outer s H E hr => ⟨_, (b_cons (s_set 1 sc_Turner_checks.nd (e_lstC a_nil))
  (b_cons (s_for PySem.PassesOwn.never rfl (i_rng1 rfl Z.z_range (a_cons (e_fld Cl_Turner A_width (e_var 0)) a_nil)) (g_name 2 sc_Turner_checks.nd) (b_cons (s_set 3 sc_Turner_checks.nd (e_if (t_cmp op_lt ok_lt (e_var 2) (e_fld Cl_Turner A_many (e_var 0))) (e_callB call_abs ok_abs rfl Z.z_abs (by decide +kernel) (a_cons (e_ix ix_seq ok_ix (e_ix ix_seq ok_ix (e_fld Cl_Turner A_rows (e_var 0)) (e_var 2)) (e_var 2)) a_nil)) e_int))
  (b_one (s_if (t_cmp (op_neA hr.units) ok_ne (e_var 3) e_int) (b_cons (s_setLcD 4 rfl sc_Turner_checks.nd (i_seqD (e_fld Cl_Turner A_unit (e_var 0))) (blkOk_by (N := N_Turner_checks) (sc := defScope s_Turner_checks) (own := [("row", 5)]) (by decide +kernel)) (fun _ _ _ _ _ => (g_name 5 sc_Turner_checks.nd)) (fun _ _ _ _ _ => ts_nil) (fun _ _ _ _ _ => (e_if (t_cmp (op_eqA hr.units) ok_eq (e_var 3) e_int) (e_ix ix_seq ok_ix (e_var 5) (e_var 2)) (e_op op_modN ok_mod (e_ix ix_seq ok_ix (e_var 5) (e_var 2)) (e_var 3)))))
  (b_one (s_expr (e_bm PySem.F.plainAttrs_list PySem.F.slot_list_append PySem.F.type_list_append mt_append ok_append (e_var 1) (a_cons (e_tup (a_cons (e_var 3) (a_cons (e_callTy call_tuple_of ok_tuple rfl Z.z_tuple (by decide +kernel) (a_cons (e_var 4) a_nil)) a_nil))) a_nil))))) b_nil))))
  (b_one (s_ret (e_callTy call_tuple_of ok_tuple rfl Z.z_tuple (by decide +kernel) (a_cons (e_var 1) a_nil)))))), ?_⟩)
  · obtain ⟨μ0, N, R, Uc, rs, us, A, U, n, rfl, _⟩ := h
    rfl
  · intro ds μ k h
    obtain ⟨μ0, N, R, Uc, rs, us, A, U, n, rfl, t, hmn, hn20, hu20, hk⟩ := h
    simp only [wRet, wRetN, wLc, wLcC, wIZip, wIEnum, wISeq, wIRng1, wIRng2, wCons, wVar, wNil, wSeq, wSet, wAsg, wPar, wIf, wTest, wNext, wDrop, wOp, wUn, wCB, wC, wFor, wAug, wAugL, wAugS, wTup, wLst, wLstC, wNot, wAnd, wOr, wAndV, wOrV, wIfE, wCall, wYes, wgName, wgTup, wgsCons, wgsNil, wgSub, wM, wFrz, wDGet, wDIn, wDPut, wDNew, wRevT, wSl, wPart, wNoPart, wWhile, wSKey, wLcM, wLcD, wLcDC, wIZipD, wISeqD, wFld, wSFld, wMeth, wMake, wLc2, wStepL, wipeE, startE, N_Turner_checks, List.map, List.length, List.cons_append, List.nil_append, List.append_nil, List.getElem?_cons_succ, List.getElem?_cons_zero, List.set_cons_succ, List.set_cons_zero, List.replicate, Nat.reduceAdd, Nat.reduceSub, if_true, if_false, Bool.false_eq_true, reduceIte, true_and, and_true]
    have tj := t.junk [.lst []]
    have hlenf : ∀ j, ((List.range j).filter fun j => decide (modAt A j ≠ 1)).length ≤ j := fun j => Nat.le_trans (List.length_filter_le _ _) (by simp)
    simp only [tj.iv, lk_width]
    refine ⟨by decide, by omega, by omega, ?_⟩
    rw [rng_to]
    refine for_range _ _ (fun i ε μ' => μ' = μ ++ [.lst ((((List.range i).filter fun j => decide (modAt A j ≠ 1)).map (chkAt A U)).map chkT)] ∧ ∃ o2 o3 o4 o5, ε = [some (D.ref N), some (D.ref μ.length), o2, o3, o4, o5]) (fun i ε μ' k' hi hJ hk' => ?_) (fun ε μ' hJ => ?_) ⟨rfl, _, _, _, _, rfl⟩
    · obtain ⟨rfl, o2, o3, o4, o5, rfl⟩ := hJ
      have hfl := hlenf i
      generalize hF : (((List.range i).filter fun j => decide (modAt A j ≠ 1)).map (chkAt A U)).map chkT = F at hk' ⊢
      have hFl : F.length ≤ i := by rw [← hF, List.length_map, List.length_map]; exact hfl
      have t' := t.junk [.lst F]
      have hmi : i < n := by simpa using hi
      simp only [wSeq, wSet, wgName, List.map, List.length, List.cons_append, List.nil_append, List.append_nil, List.getElem?_cons_succ, List.getElem?_cons_zero, List.set_cons_succ, List.set_cons_zero, List.replicate, Nat.reduceAdd, Nat.reduceSub, if_true, if_false, Bool.false_eq_true, reduceIte, true_and, and_true]
      refine ifE_step (d := .int (modAt A i)) (fun k3 hk3 => ?_) ?_
      · simp only [wRet, wRetN, wLc, wLcC, wIZip, wIEnum, wISeq, wIRng1, wIRng2, wCons, wVar, wNil, wSeq, wSet, wAsg, wPar, wIf, wTest, wNext, wDrop, wOp, wUn, wCB, wC, wFor, wAug, wAugL, wAugS, wTup, wLst, wLstC, wNot, wAnd, wOr, wAndV, wOrV, wIfE, wCall, wYes, wgName, wgTup, wgsCons, wgsNil, wgSub, wM, wFrz, wDGet, wDIn, wDPut, wDNew, wRevT, wSl, wPart, wNoPart, wWhile, wSKey, wLcM, wLcD, wLcDC, wIZipD, wISeqD, wFld, wSFld, wMeth, wMake, wLc2, wStepL, wipeE, startE, List.map, List.length, List.cons_append, List.nil_append, List.append_nil, List.getElem?_cons_succ, List.getElem?_cons_zero, List.set_cons_succ, List.set_cons_zero, List.replicate, Nat.reduceAdd, Nat.reduceSub, if_true, if_false, Bool.false_eq_true, reduceIte, true_and, and_true, t'.iv, lk_many, lk_rows, roLt, roI0]
        by_cases h : i < A.length
        · have hd : decide ((i : Int) < (A.length : Nat)) = true := by simpa using h
          have hrs : i < rs.length := by rw [t.la]; exact h
          simp only [hd, if_true]
          refine roIx_lv t'.lvR (map_ref_get hrs) (roIx_cell (t'.row h) (by rw [t.rlen h]; exact hmi) ?_)
          have e4 : (A.getD i []).getD i 0 = ent A i i := rfl
          rw [e4]
          simp only [coAbs]
          have e5 : (if ent A i i < 0 then -ent A i i else ent A i i) = modAt A i := by unfold modAt; rw [if_pos h]; split <;> omega
          rw [e5]
          exact hk3
        · have hd : decide ((i : Int) < (A.length : Nat)) = false := by simpa using h
          simp only [hd, Bool.false_eq_true, if_false]
          have e5 : (0 : Int) = modAt A i := by unfold modAt; rw [if_neg h]
          rw [e5]
          exact hk3
      · simp only [wRet, wRetN, wLc, wLcC, wIZip, wIEnum, wISeq, wIRng1, wIRng2, wCons, wVar, wNil, wSeq, wSet, wAsg, wPar, wIf, wTest, wNext, wDrop, wOp, wUn, wCB, wC, wFor, wAug, wAugL, wAugS, wTup, wLst, wLstC, wNot, wAnd, wOr, wAndV, wOrV, wIfE, wCall, wYes, wgName, wgTup, wgsCons, wgsNil, wgSub, wM, wFrz, wDGet, wDIn, wDPut, wDNew, wRevT, wSl, wPart, wNoPart, wWhile, wSKey, wLcM, wLcD, wLcDC, wIZipD, wISeqD, wFld, wSFld, wMeth, wMake, wLc2, wStepL, wipeE, startE, List.map, List.length, List.cons_append, List.nil_append, List.append_nil, List.getElem?_cons_succ, List.getElem?_cons_zero, List.set_cons_succ, List.set_cons_zero, List.replicate, Nat.reduceAdd, Nat.reduceSub, if_true, if_false, Bool.false_eq_true, reduceIte, true_and, and_true, roNe]
        have eF : (((List.range (i + 1)).filter fun j => decide (modAt A j ≠ 1)).map (chkAt A U)).map chkT = if modAt A i = 1 then F else F ++ [chkT (chkAt A U i)] := by
          rw [List.range_succ, List.filter_append, List.map_append, List.map_append, hF]
          by_cases h1 : modAt A i = 1
          · simp [h1]
          · simp [h1]
        rw [eF] at hk'
        by_cases h1 : modAt A i = 1
        · simp only [h1, decide_true, Bool.not_true, Bool.false_eq_true, if_false]
          rw [if_pos h1] at hk'
          exact hk' _ _ ⟨rfl, _, _, _, _, rfl⟩
        · simp only [h1, decide_false, Bool.not_false, if_true, t'.iv, lk_unit]
          rw [if_neg h1] at hk'
          have htv : tview (μ ++ [.lst F]) (.ref Uc) = some (us.map D.ref) := t'.lvU
          rw [htv]
          dsimp only
          have hcu : ∀ x ∈ us, ∃ row, (μ ++ [Cell.lst F])[x]? = some (cellR row) ∧ row.length = n := fun x hx => by
            obtain ⟨j, hj, e⟩ := List.getElem_of_mem hx
            have hj2 : j < U.length := by rw [← t.lu]; exact hj
            refine ⟨U[j], t'.c (rs.length + j) x _ ?_ ?_, t.wa _ (List.mem_append_right _ (List.getElem_mem hj2))⟩
            · rw [List.getElem?_append_right (by omega), Nat.add_sub_cancel_left, List.getElem?_eq_getElem hj, e]
            · rw [t.la, List.getElem?_append_right (by omega), Nat.add_sub_cancel_left, List.getElem?_eq_getElem hj2]
          let gv : Nat → D := fun x => match (μ ++ [Cell.lst F])[x]? with
            | some (.lst ds) => (match ds[i]? with
              | some (.int y) => .int (if modAt A i = 0 then y else y.fmod (modAt A i))
              | _ => .non)
            | _ => .non
          have hgv : ∀ x row, (μ ++ [Cell.lst F])[x]? = some (cellR row) → row.length = n → gv x = .int (if modAt A i = 0 then row.getD i 0 else (row.getD i 0).fmod (modAt A i)) := fun x row h1 h2 => by
            have : (row.map D.int)[i]? = some (.int (row.getD i 0)) := by simp [h2, hmi]
            simp only [gv, h1, cellR, this]
          refine lcD_all D.ref gv us htv (fun x hx acc Rr hacc hR => ?_) (by rw [t.lu]; simp only [sizeLine]; omega) ?_
          · obtain ⟨row, h2, h3⟩ := hcu x hx
            rw [hgv x row h2 h3] at hR
            simp only [wRet, wRetN, wLc, wLcC, wIZip, wIEnum, wISeq, wIRng1, wIRng2, wCons, wVar, wNil, wSeq, wSet, wAsg, wPar, wIf, wTest, wNext, wDrop, wOp, wUn, wCB, wC, wFor, wAug, wAugL, wAugS, wTup, wLst, wLstC, wNot, wAnd, wOr, wAndV, wOrV, wIfE, wCall, wYes, wgName, wgTup, wgsCons, wgsNil, wgSub, wM, wFrz, wDGet, wDIn, wDPut, wDNew, wRevT, wSl, wPart, wNoPart, wWhile, wSKey, wLcM, wLcD, wLcDC, wIZipD, wISeqD, wFld, wSFld, wMeth, wMake, wLc2, wStepL, wipeE, startE, List.map, List.length, List.cons_append, List.nil_append, List.append_nil, List.getElem?_cons_succ, List.getElem?_cons_zero, List.set_cons_succ, List.set_cons_zero, List.replicate, Nat.reduceAdd, Nat.reduceSub, if_true, if_false, Bool.false_eq_true, reduceIte, true_and, and_true, roEq]
            by_cases h0 : modAt A i = 0
            · simp only [h0, decide_true, if_true]
              rw [if_pos h0] at hR
              exact roIx_cell h2 (by omega) ⟨hacc, hR⟩
            · simp only [h0, decide_false, Bool.false_eq_true, if_false]
              rw [if_neg h0] at hR
              refine roIx_cell h2 (by omega) ?_
              simp only [roMod, roI]
              exact ⟨h0, hacc, hR⟩
          · have hgl : us.map gv = (chkAt A U i).2.map D.int := by
              apply List.ext_getElem
              · simp [chkAt, t.lu]
              · intro j q1 q2
                have hj : j < us.length := by simpa using q1
                have hj2 : j < U.length := by rw [← t.lu]; exact hj
                have hc : (μ ++ [Cell.lst F])[us[j]]? = some (cellR U[j]) := by
                  refine t'.c (rs.length + j) _ _ ?_ ?_
                  · rw [List.getElem?_append_right (by omega), Nat.add_sub_cancel_left, List.getElem?_eq_getElem hj]
                  · rw [t.la, List.getElem?_append_right (by omega), Nat.add_sub_cancel_left, List.getElem?_eq_getElem hj2]
                rw [List.getElem_map, hgv _ _ hc (t.wa _ (List.mem_append_right _ (List.getElem_mem hj2)))]
                simp [chkAt]
            rw [hgl]
            have hm : (μ ++ [Cell.lst F])[μ.length]? = some (.lst F) := List.getElem?_concat_length
            refine ⟨by simp only [tyM, tyName, hm]; rfl, ?_⟩
            simp only [coTuple, seqArg, lview]
            refine ⟨by decide, ?_⟩
            simp only [moAppend, hm]
            refine ⟨by simp only [sizeLine]; omega, ?_⟩
            refine hk' _ _ ⟨?_, _, _, _, _, rfl⟩
            rw [List.set_append_right _ _ (Nat.le_refl _), Nat.sub_self, List.set_cons_zero]
            rfl
    · obtain ⟨rfl, o2, o3, o4, o5, rfl⟩ := hJ
      simp only [wRet, wRetN, wLc, wLcC, wIZip, wIEnum, wISeq, wIRng1, wIRng2, wCons, wVar, wNil, wSeq, wSet, wAsg, wPar, wIf, wTest, wNext, wDrop, wOp, wUn, wCB, wC, wFor, wAug, wAugL, wAugS, wTup, wLst, wLstC, wNot, wAnd, wOr, wAndV, wOrV, wIfE, wCall, wYes, wgName, wgTup, wgsCons, wgsNil, wgSub, wM, wFrz, wDGet, wDIn, wDPut, wDNew, wRevT, wSl, wPart, wNoPart, wWhile, wSKey, wLcM, wLcD, wLcDC, wIZipD, wISeqD, wFld, wSFld, wMeth, wMake, wLc2, wStepL, wipeE, startE, List.map, List.length, List.cons_append, List.nil_append, List.append_nil, List.getElem?_cons_succ, List.getElem?_cons_zero, List.set_cons_succ, List.set_cons_zero, List.replicate, Nat.reduceAdd, Nat.reduceSub, if_true, if_false, Bool.false_eq_true, reduceIte, true_and, and_true]
      have hm : ∀ F, (μ ++ [Cell.lst F])[μ.length]? = some (.lst F) := fun F => List.getElem?_concat_length
      simp only [coTuple, seqArg, lview, hm]
      exact gc_id (hk _)
/-- the whole -/
def fsChecksOf : FS := fun ds μ k => ∃ (B : List Row) (n : Nat) (G : Nat → Nat → List Row → List Row → Prop) (q : Nat), ds = [.tup (B.map rowT)] ∧ 0 < B.length ∧ B.length ≤ n ∧ n ≤ 20 ∧ (∀ r ∈ B, r.length = n) ∧ TurnInv n B.length G ∧ G q 0 B (idm n) ∧
  ∀ A' U' q', A'.length = B.length → U'.length ≤ 20 → G q' A'.length A' U' → k (.tup ((checksL A' U' n).map chkT)) μ
theorem c_checks_of (Z : Zs mg) (Df : DefW K mg "checks_of" s_checks_of ["basis"]) (Cl_Turner : Cls K Ct) (CI_Turner : CalI P w K mg base T 1 Ct "Turner" (fsInit Ct)) (CM_turn : CalM P w K mg base T 3 Ct "turn" (fsTurn Ct)) (CM_checks : CalM P w K mg base T 1 Ct "checks" (fsChecks Ct)) :
    CalW P w K mg base T 4 "checks_of" fsChecksOf := by
  refine cal_w Df sc_checks_of (fun ds μ k h => ?_) (fun f cdv A outer s H E hr => ⟨_, (b_cons (s_set 1 sc_checks_of.nd (e_make CI_Turner hr (by decide) rfl (a_cons (e_var 0) a_nil)))
  (b_cons (s_expr (e_meth0 CM_turn hr (by decide) Cl_Turner (e_var 1)))
  (b_one (s_ret (e_meth0 CM_checks hr (by decide) Cl_Turner (e_var 1)))))), ?_⟩)
  · obtain ⟨B, n, G, q, rfl, _⟩ := h
    rfl
  · intro ds μ k h
    obtain ⟨B, n, G, q, rfl, hB0, hBn, hn20, hrow, inv, hG, hk⟩ := h
    simp only [wRet, wRetN, wLc, wLcC, wIZip, wIEnum, wISeq, wIRng1, wIRng2, wCons, wVar, wNil, wSeq, wSet, wAsg, wPar, wIf, wTest, wNext, wDrop, wOp, wUn, wCB, wC, wFor, wAug, wAugL, wAugS, wTup, wLst, wLstC, wNot, wAnd, wOr, wAndV, wOrV, wIfE, wCall, wYes, wgName, wgTup, wgsCons, wgsNil, wgSub, wM, wFrz, wDGet, wDIn, wDPut, wDNew, wRevT, wSl, wPart, wNoPart, wWhile, wSKey, wLcM, wLcD, wLcDC, wIZipD, wISeqD, wFld, wSFld, wMeth, wMake, wLc2, wStepL, wipeE, startE, N_checks_of, List.map, List.length, List.cons_append, List.nil_append, List.append_nil, List.getElem?_cons_succ, List.getElem?_cons_zero, List.set_cons_succ, List.set_cons_zero, List.replicate, Nat.reduceAdd, Nat.reduceSub, if_true, if_false, Bool.false_eq_true, reduceIte, true_and, and_true]
    refine ⟨μ, B, n, rfl, rfl, hB0, by omega, hn20, hrow, fun μ1 R Uc rs us t => ⟨rfl, ?_⟩⟩
    simp only [t.iv]
    refine ⟨rfl, μ, μ.length, R, Uc, rs, us, B, idm n, n, G, q, rfl, t, by omega, hn20, inv, hG, fun μ2 rs2 A' U' q' t2 hG2 => ?_⟩
    have hl := (inv.len _ _ _ _ hG2).1
    have hu : U'.length = n := by rw [← t2.lu, t.lu, idm_length]
    simp only [t2.iv]
    refine ⟨rfl, μ, μ.length, R, Uc, rs2, us, A', U', n, rfl, t2, by omega, hn20, by omega, fun ν => ?_⟩
    have e : μ2 ++ ν = μ ++ (μ2.drop μ.length ++ ν) := by
      rw [← List.append_assoc]
      congr 1
      have := List.take_append_drop μ.length μ2
      rw [t2.fr] at this
      exact this.symm
    rw [e]
    refine gc_pure ?_ (hk A' U' q' hl (by omega) (by rw [hl]; exact hG2))
    show loL μ.length ((checksL A' U' n).map chkT) = true
    have : ∀ l : List (Int × List Int), loL μ.length (l.map chkT) = true := by
      intro l
      induction l with
      | nil => rfl
      | cons c l ih =>
        show ((chkT c).lo μ.length && loL μ.length (l.map chkT)) = true
        rw [ih, Bool.and_true]
        simp [chkT, chkD, D.lo, loL, rowT, lo_ints]
    exact this _
end
end K86
namespace K86
open PySem PySem.Spec L2 WL
/-! the law -/
structure CkOk (n : Nat) (B : List Row) (C : List (Int × List Int)) : Prop where
  len : C.length ≤ n
  form : ∀ c ∈ C, 0 ≤ c.1 ∧ c.1 ≠ 1 ∧ c.2.length = n
  mul : ∀ c ∈ C, ∀ r : Row, r.length = n → Bd 200 r → ∀ x ∈ c.2, ∀ y ∈ r, IntMulOk x y
  eq : ∀ r : Row, r.length = n → Bd 200 r → (C.all fun c => keepsB c.1 c.2 r) = spB B r
/-- what is known of a turn's rows -/
structure TurnM (n : Nat) (rows B : List Row) : Prop where
  lb : ∃ Hh G Eu F, LbInv n rows Hh G Eu F ∧ Hh 0 [] ∧ ∀ held ks found, F held ks ks.length found → found = B
  eb : ∃ J, EchInv n J ∧ J 0 [] rows ∧ ∀ found rows', J n found rows' → found = B
  pos : 0 < B.length
  len : B.length ≤ n
  row : ∀ r ∈ B, r.length = n
  sp : ∀ r : Row, r.length = n → Bd 200 r → spOk n B r
  sb : ∀ ns : List Int, ns.length = B.length → (∀ x ∈ ns, x.natAbs ≤ 10 ^ 9) → Bd 200 (sumL ns B n)
  G : ∃ G q, TurnInv n B.length G ∧ G q 0 B (idm n) ∧ ∀ A' U' q', G q' B.length A' U' → CkOk n B (checksL A' U' n)
theorem sumL_length (ns : List Int) (rows : List Row) (n : Nat) : (sumL ns rows n).length = n := by simp [sumL]
theorem if_step {t : WT} {a b : WS} {k : WK} {ε : En} {μ : Mem} (J : En → Mem → Prop) (h : ∀ nx' : En → Mem → Prop, (∀ ε' μ', J ε' μ' → nx' ε' μ') → wIf t a b ⟨nx', k.rt, k.bk, k.ct⟩ ε μ) (hk : ∀ ε' μ', J ε' μ' → k.nx ε' μ') : wIf t a b k ε μ := h k.nx hk
theorem for_step {wi : WA} {g : WG} {b : WS} {k : WK} {ε : En} {μ : Mem} (J : En → Mem → Prop) (h : ∀ nx' : En → Mem → Prop, (∀ ε' μ', J ε' μ' → nx' ε' μ') → wFor wi g b ⟨nx', k.rt, k.bk, k.ct⟩ ε μ) (hk : ∀ ε' μ', J ε' μ' → k.nx ε' μ') : wFor wi g b k ε μ := h k.nx hk
theorem ifE_step2 {t : WT} {a b : WE} {ε : En} {μ : Mem} {k : D → En → Mem → Prop} (J : D → En → Mem → Prop) (h : ∀ k' : D → En → Mem → Prop, (∀ d ε' μ', J d ε' μ' → k' d ε' μ') → wIfE t a b ε μ k') (hk : ∀ d ε' μ', J d ε' μ' → k d ε' μ') : wIfE t a b ε μ k := h k hk
theorem boxL_sm : ∀ n, ∀ r ∈ boxL n, ∀ x ∈ r, x.natAbs ≤ 5
  | 0, r, h, x, hx => by
    have : r = [] := by simpa [boxL] using h
    rw [this] at hx
    cases hx
  | n + 1, r, h, x, hx => by
    have h : r ∈ (boxL n).flatMap fun r => (List.range 11).map fun i : Nat => r ++ [(i : Int) - 5] := h
    rw [List.mem_flatMap] at h
    obtain ⟨q, hq, h⟩ := h
    rw [List.mem_map] at h
    obtain ⟨i, hi, rfl⟩ := h
    have hi := List.mem_range.mp hi
    rcases List.mem_append.mp hx with h | h
    · exact boxL_sm n q hq x h
    · rw [List.mem_singleton.mp h]; omega
theorem filter_none {α : Type} (p : α → Bool) : ∀ l : List α, (l.filter fun c => !p c).isEmpty = l.all p
  | [] => rfl
  | a :: l => by
    rw [List.filter_cons, List.all_cons]
    cases h : p a with
    | true => simpa [h] using filter_none p l
    | false => simp [h]
theorem can_chk : ∀ C : List (Int × List Int), PyData.canLayAll0 (toPyL (C.map chkT)) = true
  | [] => rfl
  | c :: C => by
    have := can_chk C
    simp [toPyL, toPy, chkT, chkD, rowT, PyData.canLayAll0, PyData.canLay0, this, can_ints]
theorem dep_chk : ∀ C : List (Int × List Int), PyData.depthAll (toPyL (C.map chkT)) ≤ 2
  | [] => by decide
  | c :: C => by
    have := dep_chk C
    simp [toPyL, toPy, chkT, chkD, rowT, PyData.depthAll, PyData.depth, dep_ints]
    omega
theorem sh_chk (C : List (Int × List Int)) : SeqAt.shaped (.list (toPyL (C.map chkT))) = true := by
  have h1 := can_chk C
  have h2 := dep_chk C
  simp [SeqAt.shaped, PyData.canLay0, PyData.depth, h1]
  omega
theorem mulOk200 {x y : Int} {a b m : Nat} (hm : a ≤ m) (h1 : x.natAbs < 2 ^ a) (h2 : y.natAbs < 2 ^ b) (h : m + b ≤ 134217728) : IntMulOk x y := by
  refine PySem.IntMulOk.of_le (m := a) (n := b) (PySem.intBits_le_iff.mpr h1) (PySem.intBits_le_iff.mpr h2) (by omega)
def Sm (b : Nat) (n : Nat) (r : Row) : Prop := r.length = n ∧ ∀ x ∈ r, x.natAbs ≤ b
theorem Sm.snoc {b n : Nat} {r : Row} {x : Int} (h : Sm b n r) (hx : x.natAbs ≤ b) : Sm b (n + 1) (r ++ [x]) := ⟨by rw [List.length_append, h.1]; rfl, fun y hy => by
  rcases List.mem_append.mp hy with q | q
  · exact h.2 y q
  · rw [List.mem_singleton.mp q]; exact hx⟩
theorem PotOk.up {N : Nat} {cells : List Int} {p2 hi hi' : Int} (o : PotOk N cells p2 hi) (h : hi ≤ hi') (h2 : hi' < 2 ^ 39) : PotOk N cells p2 hi' := ⟨o.l, o.n, o.c, o.lo, Int.le_trans o.hi h, h2⟩
section
variable {P : Program} {w : World} {K : PySem.W.Frag} {mg : Str → Option Value} {base : Heap} {T : List (Addr × Str)} {c Pt : Addr}
theorem c_law {fL : Addr} {fdL : FuncData} (Z : Zs mg) (FL : Fun K "law" "law" s_law fL fdL) (TM : ∀ (n : Nat) (rows : List Row), 0 < n → n ≤ 4 → 0 < rows.length → rows.length ≤ 6 → (∀ r ∈ rows, r.length = n ∧ ∀ x ∈ r, x.natAbs ≤ 4) → (∃ r ∈ rows, ∃ x ∈ r, x ≠ 0) → ∃ B, TurnM n rows B)
    (C__law_pot : CalW P w K mg base T 1 "_law_pot" fsPot) (C__law_draw : CalW P w K mg base T 1 "_law_draw" fsDraw) (C__law_basis : CalW P w K mg base T 2 "_law_basis" fsLB)
    (C_basis_of : CalW P w K mg base T 4 "basis_of" fsBasis) (C_checks_of : CalW P w K mg base T 4 "checks_of" fsChecksOf) (C__law_is_check : CalW P w K mg base T 2 "_law_is_check" fsIsCheck) (C__law_box : CalW P w K mg base T 1 "_law_box" fsBox)
    (C__law_same : CalW P w K mg base T 1 "_law_same" (fsSame 0)) (C__law_sum : CalW P w K mg base T 1 "_law_sum" fsSum) (C_is_spanned : CalW P w K mg base T 2 "is_spanned" fsSpan)
    (C__law_spans : CalW P w K mg base T 2 "_law_spans" fsSpan) (C_keeps : CalW P w K mg base T 1 "keeps" fsKeeps) (C__law_keeps : CalW P w K mg base T 1 "_law_keeps" fsKeeps) : FnOk P w K mg base CX0 5 fL fdL ["script"] (spOf K T (fsTrue 1000000)) := by
  refine fn_w FL sc_law (fun ds μ k h => ?_) (fun cdv A outer s H E hr => ⟨_, (b_cons (s_set 1 sc_law.nd (e_c C__law_pot hr (by decide) rfl (a_cons (e_var 0) (a_cons e_int a_nil))))
  (b_cons (s_for PySem.PassesOwn.never rfl (i_rng1 rfl Z.z_range (a_cons e_int a_nil)) (g_name 2 sc_law.nd) (b_cons (s_set 3 sc_law.nd (e_op op_addAll ok_add e_int (e_c C__law_draw hr (by decide) rfl (a_cons (e_var 1) (a_cons (e_op op_addAll ok_add e_int (e_callTy call_int1 ok_int rfl Z.z_int (by decide +kernel) (a_cons (e_cmp (op_eqA hr.units) ok_eq (e_var 2) e_int) a_nil))) a_nil)))))
  (b_cons (s_setLcC 4 rfl sc_law.nd (i_rng1 rfl Z.z_range (a_cons (e_op op_addAll ok_add e_int (e_c C__law_draw hr (by decide) rfl (a_cons (e_var 1) (a_cons e_int a_nil)))) a_nil)) (blkOk_by (N := N_law) (sc := defScope s_law) (own := [("one", 11)]) (by decide +kernel)) (fun _ _ _ _ _ => (g_name 11 sc_law.nd)) (fun _ _ _ _ _ => ts_nil) (fun _ _ _ _ _ => (e_callTy call_tuple_of ok_tuple rfl Z.z_tuple (by decide +kernel) (a_cons (e_lc rfl sc_law.nd (i_rng1 rfl Z.z_range (a_cons (e_var 3) a_nil)) (blkOk_by (own := [("k", 13)]) (by kernel_rfl)) (fun _ _ _ _ _ => (g_name 13 sc_law.nd)) (fun _ _ _ _ _ => ts_nil) (fun _ _ _ _ _ => (e_op op_sub ok_sub (e_c C__law_draw hr (by decide) rfl (a_cons (e_var 1) (a_cons e_int a_nil))) e_int))) a_nil))))
  (b_cons (s_expr (e_bm PySem.F.plainAttrs_list PySem.F.slot_list_append PySem.F.type_list_append mt_append ok_append (e_var 4) (a_cons (e_callTy call_tuple_of ok_tuple rfl Z.z_tuple (by decide +kernel) (a_cons (e_op op_addAll ok_add (e_op op_mulAll ok_mul (e_lst (a_cons e_int a_nil)) (e_op op_sub ok_sub (e_var 3) e_int)) (e_lst (a_cons (e_c C__law_draw hr (by decide) rfl (a_cons (e_var 1) (a_cons e_int a_nil))) a_nil))) a_nil)) a_nil)))
  (b_cons (s_if (t_cmp (op_eqA hr.units) ok_eq (e_lcM 4 rfl sc_law.nd  (blkOk_by (N := N_law) (sc := defScope s_law) (own := [("row", 8)]) (by decide +kernel)) (fun _ _ _ _ _ => (g_name 8 sc_law.nd)) (fun _ _ _ _ _ => (ts_one (t_cmp (op_neA hr.units) ok_ne (e_lc rfl sc_law.nd (i_seq (e_var 8)) (blkOk_by (own := [("one", 11)]) (by kernel_rfl)) (fun _ _ _ _ _ => (g_name 11 sc_law.nd)) (fun _ _ _ _ _ => (ts_one (t_cmp (op_neA hr.units) ok_ne (e_var 11) e_int))) (fun _ _ _ _ _ => (e_var 11))) (e_lst a_nil)))) (fun _ _ _ _ _ => (e_var 8))) (e_lst a_nil)) (b_one (s_expr (e_bm PySem.F.plainAttrs_list PySem.F.slot_list_append PySem.F.type_list_append mt_append ok_append (e_var 4) (a_cons (e_callTy call_tuple_of ok_tuple rfl Z.z_tuple (by decide +kernel) (a_cons (e_op op_mulAll ok_mul (e_lst (a_cons e_int a_nil)) (e_var 3)) a_nil)) a_nil)))) b_nil)
  (b_cons (s_set 5 sc_law.nd (e_c C__law_basis hr (by decide) rfl (a_cons (e_callTy call_tuple_of ok_tuple rfl Z.z_tuple (by decide +kernel) (a_cons (e_var 4) a_nil)) a_nil)))
  (b_cons (s_set 6 sc_law.nd (e_c C_checks_of hr (by decide) rfl (a_cons (e_c C_basis_of hr (by decide) rfl (a_cons (e_callTy call_tuple_of ok_tuple rfl Z.z_tuple (by decide +kernel) (a_cons (e_var 4) a_nil)) a_nil)) a_nil)))
  (b_cons (s_if (t_pw (p_or (t_not (t_val (e_callB call_isi ok_isi rfl Z.z_isinstance (by decide +kernel) (a_cons (e_var 6) (a_cons (e_bty (n := "tuple") rfl Z.z_tuple (by decide +kernel)) a_nil))))) (p_or (t_cmp op_gt ok_gt (e_callB cr_len ok_len rfl Z.z_len (by decide +kernel) (a_cons (e_var 6) a_nil)) (e_var 3)) (p_or1 (t_not (t_val (e_callB (cr_all rfl) ok_all rfl Z.z_all (by decide +kernel) (a_cons (e_lc rfl sc_law.nd (i_seq (e_var 6)) (blkOk_by (N := N_law) (sc := defScope s_law) (own := [("check", 10)]) (by decide +kernel)) (fun _ _ _ _ _ => (g_name 10 sc_law.nd)) (fun _ _ _ _ _ => ts_nil) (fun _ _ _ _ _ => (e_c C__law_is_check hr (by decide) rfl (a_cons (e_var 10) (a_cons (e_var 3) a_nil))))) a_nil)))))))) (b_one (s_ret e_bl)) b_nil)
  (b_cons (s_set 7 sc_law.nd (e_if (t_cmp op_lt ok_lt (e_var 3) e_int) (e_c C__law_box hr (by decide) rfl (a_cons (e_var 3) a_nil)) (e_lc rfl sc_law.nd (i_rng1 rfl Z.z_range (a_cons e_int a_nil)) (blkOk_by (N := N_law) (sc := defScope s_law) (own := [("again", 12)]) (by decide +kernel)) (fun _ _ _ _ _ => (g_name 12 sc_law.nd)) (fun _ _ _ _ _ => ts_nil) (fun _ _ _ _ _ => (e_callTy call_tuple_of ok_tuple rfl Z.z_tuple (by decide +kernel) (a_cons (e_lc rfl sc_law.nd (i_rng1 rfl Z.z_range (a_cons (e_var 3) a_nil)) (blkOk_by (own := [("k", 13)]) (by kernel_rfl)) (fun _ _ _ _ _ => (g_name 13 sc_law.nd)) (fun _ _ _ _ _ => ts_nil) (fun _ _ _ _ _ => (e_op op_sub ok_sub (e_c C__law_draw hr (by decide) rfl (a_cons (e_var 1) (a_cons e_int a_nil))) e_int))) a_nil))))))
  (b_cons (s_set 7 sc_law.nd (e_op op_addAll ok_add (e_var 7) (e_lc rfl sc_law.nd (i_rng1 rfl Z.z_range (a_cons e_int a_nil)) (blkOk_by (N := N_law) (sc := defScope s_law) (own := [("again", 12)]) (by decide +kernel)) (fun _ _ _ _ _ => (g_name 12 sc_law.nd)) (fun _ _ _ _ _ => ts_nil) (fun _ _ _ _ _ => (e_c C__law_sum hr (by decide) rfl (a_cons (e_lc rfl sc_law.nd (i_seq (e_var 5)) (blkOk_by (own := [("own", 14)]) (by kernel_rfl)) (fun _ _ _ _ _ => (g_name 14 sc_law.nd)) (fun _ _ _ _ _ => ts_nil) (fun _ _ _ _ _ => (e_op op_sub ok_sub (e_c C__law_draw hr (by decide) rfl (a_cons (e_var 1) (a_cons (e_op op_pow ok_pow e_int e_int) a_nil))) e_int))) (a_cons (e_var 5) (a_cons (e_var 3) a_nil))))))))
  (b_cons (s_for PySem.PassesOwn.never rfl (i_seq (e_var 7)) (g_name 8 sc_law.nd) (b_cons (s_set 9 sc_law.nd (e_c C__law_spans hr (by decide) rfl (a_cons (e_var 5) (a_cons (e_var 8) a_nil))))
  (b_one (s_if (t_cmp (op_neA hr.units) ok_ne (e_cmp (op_eqA hr.units) ok_eq (e_lc rfl sc_law.nd (i_seq (e_var 6)) (blkOk_by (N := N_law) (sc := defScope s_law) (own := [("check", 10)]) (by decide +kernel)) (fun _ _ _ _ _ => (g_name 10 sc_law.nd)) (fun _ _ _ _ _ => (ts_one (t_not (t_val (e_c C__law_keeps hr (by decide) rfl (a_cons (e_var 10) (a_cons (e_var 8) a_nil))))))) (fun _ _ _ _ _ => (e_var 10))) (e_lst a_nil)) (e_var 9)) (b_one (s_ret e_bl)) b_nil))))
  (b_one (s_for PySem.PassesOwn.never rfl (i_seq (e_stepL (by decide) (e_var 7))) (g_name 8 sc_law.nd) (b_cons (s_if (t_not (t_val (e_c C__law_same hr (by decide) rfl (a_cons (e_c C_is_spanned hr (by decide) rfl (a_cons (e_var 5) (a_cons (e_var 8) a_nil))) (a_cons (e_c C__law_spans hr (by decide) rfl (a_cons (e_var 5) (a_cons (e_var 8) a_nil))) a_nil))))) (b_one (s_ret e_bl)) b_nil)
  (b_one (s_for PySem.PassesOwn.never rfl (i_seq (e_op op_addAll ok_add (e_var 6) (e_tup (a_cons (e_tup (a_cons e_int (a_cons (e_var 8) a_nil))) (a_cons (e_tup (a_cons e_int (a_cons (e_var 8) a_nil))) (a_cons (e_tup (a_cons e_int (a_cons (e_revT (e_var 8)) a_nil))) a_nil)))))) (g_name 10 sc_law.nd) (b_one (s_if (t_not (t_val (e_c C__law_same hr (by decide) rfl (a_cons (e_c C_keeps hr (by decide) rfl (a_cons (e_var 10) (a_cons (e_var 8) a_nil))) (a_cons (e_c C__law_keeps hr (by decide) rfl (a_cons (e_var 10) (a_cons (e_var 8) a_nil))) a_nil))))) (b_one (s_ret e_bl)) b_nil))))))))))))))))))
  (b_one (s_ret e_bl)))), ?_⟩)
  · obtain ⟨s, rfl, _⟩ := h
    rfl
  · intro ds μ k h
    obtain ⟨s, rfl, rfl, hs, hk⟩ := h
    simp only [wRet, wRetN, wLc, wLcC, wIZip, wIEnum, wISeq, wIRng1, wIRng2, wCons, wVar, wNil, wSeq, wSet, wAsg, wPar, wIf, wTest, wNext, wDrop, wOp, wUn, wCB, wC, wFor, wAug, wAugL, wAugS, wTup, wLst, wLstC, wNot, wAnd, wOr, wAndV, wOrV, wIfE, wCall, wYes, wgName, wgTup, wgsCons, wgsNil, wgSub, wM, wFrz, wDGet, wDIn, wDPut, wDNew, wRevT, wSl, wPart, wNoPart, wWhile, wSKey, wLcM, wLcD, wLcDC, wIZipD, wISeqD, wFld, wSFld, wMeth, wMake, wLc2, wStepL, wipeE, startE, N_law, List.map, List.length, List.cons_append, List.nil_append, List.append_nil, List.getElem?_cons_succ, List.getElem?_cons_zero, List.set_cons_succ, List.set_cons_zero, List.replicate, Nat.reduceAdd, Nat.reduceSub, if_true, if_false, Bool.false_eq_true, reduceIte, true_and, and_true]
    refine ⟨s, rfl, rfl, hs, fun cells hcl hcp => ?_⟩
    refine ⟨by decide, by decide, ?_⟩
    refine for_range _ _ (fun i ε μ' => ∃ (cs : List Int) (q1 q2 : Int) (ν : Mem) (o2 o3 o4 o5 o6 o7 o8 o9 o10 o11 o12 o13 o14 : Option D), PotOk s.length cs q2 (3000 * (i : Nat)) ∧
        ε = [some (.fl (s.map D.int)), some (.ref 1), o2, o3, o4, o5, o6, o7, o8, o9, o10, o11, o12, o13, o14] ∧ μ' = potM cs q1 q2 ν) (fun i ε μ' k' hi hJ hk' => ?_) (fun ε μ' hJ => gc_id (hk _))
      ⟨cells, 0, 0, [], _, _, _, _, _, _, _, _, _, _, _, _, _, ⟨hcl, hs, hcp, by decide, by decide, by decide⟩, rfl, rfl⟩
    have hi : i < 4 := hi
    obtain ⟨cs, q1, q2, ν, o2, o3, o4, o5, o6, o7, o8, o9, o10, o11, o12, o13, o14, hpo, rfl, rfl⟩ := hJ
    simp only [wRet, wRetN, wLc, wLcC, wIZip, wIEnum, wISeq, wIRng1, wIRng2, wCons, wVar, wNil, wSeq, wSet, wAsg, wPar, wTest, wNext, wDrop, wOp, wUn, wCB, wC, wAug, wAugL, wAugS, wTup, wLst, wLstC, wNot, wAnd, wOr, wAndV, wOrV, wCall, wYes, wgName, wgTup, wgsCons, wgsNil, wgSub, wM, wFrz, wDGet, wDIn, wDPut, wDNew, wRevT, wSl, wPart, wNoPart, wWhile, wSKey, wLcM, wLcD, wLcDC, wIZipD, wISeqD, wFld, wSFld, wMeth, wMake, wLc2, wStepL, wipeE, startE, List.map, List.length, List.cons_append, List.nil_append, List.append_nil, List.getElem?_cons_succ, List.getElem?_cons_zero, List.set_cons_succ, List.set_cons_zero, List.replicate, Nat.reduceAdd, Nat.reduceSub, if_true, if_false, Bool.false_eq_true, reduceIte, true_and, and_true, roEq, coInt, roAdd]
    have hm3 : ∃ m3 : Int, 3 + (if decide ((i : Int) = 3) = true then (1 : Int) else 0) = m3 ∧ 3 ≤ m3 ∧ m3 ≤ 4 := ⟨_, rfl, by split <;> omega, by split <;> omega⟩
    obtain ⟨m3, e3, hm3, hm4⟩ := hm3
    rw [e3]
    refine hpo.draw (by omega) (by omega) fun x cs1 q1' hx0 hx1 ho => ?_
    have ho := ho (3000 * (i : Nat) + 1) (by omega) (by omega)
    obtain ⟨n, hn⟩ : ∃ n : Nat, 1 + x = (n : Int) := ⟨(1 + x).toNat, by omega⟩
    have hn0 : 0 < n := by omega
    have hn4 : n ≤ 4 := by omega
    simp only [roAdd, hn]
    refine ho.draw (by omega) (by omega) fun y cs2 q1'' hy0 hy1 ho2 => ?_
    have ho2 := ho2 (3000 * (i : Nat) + 2) (by omega) (by omega)
    refine ⟨by omega, by omega, ?_⟩
    obtain ⟨ry, hry⟩ : ∃ ry : Nat, 1 + y = (ry : Int) := ⟨(1 + y).toNat, by omega⟩
    rw [hry, rng_to]
    refine lc_list _ (List.range ry) (fun j acc μ' => ∃ (rows : List Row) (cs : List Int) (q1 q2 : Int), rows.length = j ∧ acc = rows.map rowT ∧ (∀ r ∈ rows, Sm 4 n r) ∧ PotOk s.length cs q2 (3000 * (i : Nat) + 2 + 5 * (j : Nat)) ∧ μ' = potM cs q1 q2 ν)
      (fun j a acc μ' R hja hJ hR => ?_) (fun acc μ' hJ => ?_) ⟨[], cs2, q1'', _, rfl, rfl, fun x hx => absurd hx (by simp), by simpa using ho2, rfl⟩
    · obtain ⟨rows, cs, q1, q2, hl, rfl, hb, hpo, rfl⟩ := hJ
      have hj5 : j < ry := by have := (List.getElem?_eq_some_iff.mp hja).1; simpa using this
      simp only [wRet, wRetN, wLc, wLcC, wIZip, wIEnum, wISeq, wIRng1, wIRng2, wCons, wVar, wNil, wSeq, wSet, wAsg, wPar, wIf, wTest, wNext, wDrop, wOp, wUn, wCB, wC, wFor, wAug, wAugL, wAugS, wTup, wLst, wLstC, wNot, wAnd, wOr, wAndV, wOrV, wIfE, wCall, wYes, wgName, wgTup, wgsCons, wgsNil, wgSub, wM, wFrz, wDGet, wDIn, wDPut, wDNew, wRevT, wSl, wPart, wNoPart, wWhile, wSKey, wLcM, wLcD, wLcDC, wIZipD, wISeqD, wFld, wSFld, wMeth, wMake, wLc2, wStepL, wipeE, startE, List.map, List.length, List.cons_append, List.nil_append, List.append_nil, List.getElem?_cons_succ, List.getElem?_cons_zero, List.set_cons_succ, List.set_cons_zero, List.replicate, Nat.reduceAdd, Nat.reduceSub, if_true, if_false, Bool.false_eq_true, reduceIte, true_and, and_true]
      refine ⟨by omega, by omega, ?_⟩
      rw [rng_to]
      refine lc_list _ (List.range n) (fun m acc μ' => ∃ (r : Row) (cs : List Int) (q1 q2 : Int), acc = r.map D.int ∧ Sm 4 m r ∧ PotOk s.length cs q2 (3000 * (i : Nat) + 2 + 5 * (j : Nat) + (m : Nat)) ∧ μ' = potM cs q1 q2 ν)
        (fun m a acc μ' R2 hja hJ hR2 => ?_) (fun acc μ' hJ => ?_) ⟨[], cs, q1, q2, rfl, ⟨rfl, fun x hx => absurd hx (by simp)⟩, by simpa using hpo, rfl⟩
      · obtain ⟨r, cs, q1, q2, rfl, hr, hpo, rfl⟩ := hJ
        have hm5 : m < n := by have := (List.getElem?_eq_some_iff.mp hja).1; simpa using this
        simp only [wRet, wRetN, wLc, wLcC, wIZip, wIEnum, wISeq, wIRng1, wIRng2, wCons, wVar, wNil, wSeq, wSet, wAsg, wPar, wIf, wTest, wNext, wDrop, wOp, wUn, wCB, wC, wFor, wAug, wAugL, wAugS, wTup, wLst, wLstC, wNot, wAnd, wOr, wAndV, wOrV, wIfE, wCall, wYes, wgName, wgTup, wgsCons, wgsNil, wgSub, wM, wFrz, wDGet, wDIn, wDPut, wDNew, wRevT, wSl, wPart, wNoPart, wWhile, wSKey, wLcM, wLcD, wLcDC, wIZipD, wISeqD, wFld, wSFld, wMeth, wMake, wLc2, wStepL, wipeE, startE, List.map, List.length, List.cons_append, List.nil_append, List.append_nil, List.getElem?_cons_succ, List.getElem?_cons_zero, List.set_cons_succ, List.set_cons_zero, List.replicate, Nat.reduceAdd, Nat.reduceSub, if_true, if_false, Bool.false_eq_true, reduceIte, true_and, and_true]
        refine hpo.draw (by omega) (by omega) fun x2 cs2 q1' hx2 hx3 ho2 => ?_
        simp only [roSub, roI0]
        refine ⟨by rw [List.length_map, hr.1]; simp only [sizeLine]; omega, hR2 _ _ ⟨r ++ [x2 - 4], cs2, q1', _, by simp, hr.snoc (by omega), ho2 _ (by omega) (by omega), rfl⟩⟩
      · obtain ⟨r, cs, q1, q2, rfl, hr, hpo, rfl⟩ := hJ
        simp only [List.length_range] at hr hpo
        simp only [coTuple, seqArg, lview]
        refine ⟨by rw [List.length_map, hl]; simp only [sizeLine]; omega, hR _ _ ⟨rows ++ [r], cs, q1, q2, by simp [hl], by simp [rowT], fun y hy => ?_, hpo.up (by omega) (by omega), rfl⟩⟩
        rcases List.mem_append.mp hy with h | h
        · exact hb y h
        · rw [List.mem_singleton.mp h]; exact hr
    obtain ⟨rows, cs3, q13, q23, hrl, rfl, hrb, ho3, rfl⟩ := hJ
    simp only [List.length_range] at hrl ho3
    have ho3 := ho3.up (show _ ≤ 3000 * (i : Int) + 40 by omega) (by omega)
    have hpa : ∀ (cs : List Int) (q1 q2 : Int) (c : Cell), potM cs q1 q2 ν ++ [c] = potM cs q1 q2 (ν ++ [c]) := fun cs q1 q2 c => rfl
    have hpl : ∀ (cs : List Int) (q1 q2 : Int), (potM cs q1 q2 ν).length = ν.length + 2 := fun cs q1 q2 => rfl
    have hpg : ∀ (cs : List Int) (q1 q2 : Int) (c : Cell), (potM cs q1 q2 (ν ++ [c]))[ν.length + 2]? = some c := fun cs q1 q2 c => by
      show (ν ++ [c])[ν.length]? = some c
      exact List.getElem?_concat_length
    have hps : ∀ (cs : List Int) (q1 q2 : Int) (c c' : Cell), (potM cs q1 q2 (ν ++ [c])).set (ν.length + 2) c' = potM cs q1 q2 (ν ++ [c']) := fun cs q1 q2 c c' => by
      show _ :: _ :: (ν ++ [c]).set ν.length c' = _
      rw [List.set_append_right _ _ (Nat.le_refl _), Nat.sub_self, List.set_cons_zero]
    simp only [hpa, hpl, roSub, roI0, roMul, lviewM]
    refine ⟨by simp only [tyM, tyName, hpg]; rfl, by decide, by omega, by omega, by simp only [List.length_singleton, sizeLine]; omega, ?_⟩
    refine ho3.draw (by decide) (by decide) fun z cs4 q14 hz0 hz1 ho4 => ?_
    have ho4 := ho4 (3000 * (i : Nat) + 41) (by omega) (by omega)
    have ezr : (List.replicate ((n : Int) - 1).toNat [D.int 0]).flatten ++ [D.int z] = (List.replicate (n - 1) (0 : Int) ++ [z]).map D.int := by
      rw [show ((n : Int) - 1).toNat = n - 1 by omega, zeros_of, List.map_append]
      rfl
    have hzr : Sm 4 n (List.replicate (n - 1) (0 : Int) ++ [z]) := by
      refine ⟨by simp; omega, fun x hx => ?_⟩
      rcases List.mem_append.mp hx with h | h
      · rw [List.eq_of_mem_replicate h]; decide
      · rw [List.mem_singleton.mp h]; omega
    simp only [ezr]
    have elen : ((List.replicate ((n : Int) - 1).toNat [D.int 0]).flatten).length + [D.int z].length ≤ sizeLine := by
      rw [← List.length_append, ezr, List.length_map, hzr.1]; simp only [sizeLine]; omega
    simp only [coTuple, seqArg, lview, moAppend, hpg, hps]
    refine ⟨by decide, elen, ?_⟩
    refine ⟨by rw [List.length_map]; simp only [sizeLine]; omega, ?_⟩
    have e2 : rows.map rowT ++ [D.tup ((List.replicate (n - 1) (0 : Int) ++ [z]).map D.int)] = (rows ++ [List.replicate (n - 1) (0 : Int) ++ [z]]).map rowT := by rw [List.map_append (l₁ := rows)]; rfl
    rw [e2]
    have hrb2 : ∀ r ∈ rows ++ [List.replicate (n - 1) (0 : Int) ++ [z]], Sm 4 n r := fun r hr => by
      rcases List.mem_append.mp hr with h | h
      · exact hrb r h
      · rw [List.mem_singleton.mp h]; exact hzr
    have hrl2 : (rows ++ [List.replicate (n - 1) (0 : Int) ++ [z]]).length ≤ 5 := by rw [List.length_append, List.length_singleton]; omega
    generalize (rows ++ [List.replicate (n - 1) (0 : Int) ++ [z]]) = rows2 at hrb2 hrl2 ⊢
    refine if_step (fun ε' μ' => ∃ (rows : List Row) (o8 o11 : Option D), ε' = [some (D.fl (List.map D.int s)), some (D.ref 1), some (D.int (i : Nat)), some (D.int (n : Nat)), some (D.ref (ν.length + 2)), o5, o6, o7, o8, o9, o10, o11, o12, o13, o14] ∧
      0 < rows.length ∧ rows.length ≤ 6 ∧ (∀ r ∈ rows, Sm 4 n r) ∧ (∃ r ∈ rows, ∃ x ∈ r, x ≠ 0) ∧ μ' = potM cs4 q14 (q23 + 1) (ν ++ [.lst (rows.map rowT)])) (fun nx' hnx => ?_) (fun ε' μ' hJ => ?_)
    · simp only [wRet, wRetN, wLc, wLcC, wIZip, wIEnum, wISeq, wIRng1, wIRng2, wCons, wVar, wNil, wSeq, wSet, wAsg, wPar, wIf, wTest, wNext, wDrop, wOp, wUn, wCB, wC, wFor, wAug, wAugL, wAugS, wTup, wLst, wLstC, wNot, wAnd, wOr, wAndV, wOrV, wIfE, wCall, wYes, wgName, wgTup, wgsCons, wgsNil, wgSub, wM, wFrz, wDGet, wDIn, wDPut, wDNew, wRevT, wSl, wPart, wNoPart, wWhile, wSKey, wLcM, wLcD, wLcDC, wIZipD, wISeqD, wFld, wSFld, wMeth, wMake, wLc2, wStepL, wipeE, startE, List.map, List.length, List.cons_append, List.nil_append, List.append_nil, List.getElem?_cons_succ, List.getElem?_cons_zero, List.set_cons_succ, List.set_cons_zero, List.replicate, Nat.reduceAdd, Nat.reduceSub, if_true, if_false, Bool.false_eq_true, reduceIte, true_and, and_true, hpg]
      refine lcM_ifs rowT (fun r : Row => !(r.filter fun x => decide (x ≠ 0)).isEmpty) rows2 (hpg _ _ _ _) (fun r hr acc R hacc hR => ?_) (by simp only [sizeLine]; omega) ?_
      · simp only [wRet, wRetN, wLc, wLcC, wIZip, wIEnum, wISeq, wIRng1, wIRng2, wCons, wVar, wNil, wSeq, wSet, wAsg, wPar, wIf, wTest, wNext, wDrop, wOp, wUn, wCB, wC, wFor, wAug, wAugL, wAugS, wTup, wLst, wLstC, wNot, wAnd, wOr, wAndV, wOrV, wIfE, wCall, wYes, wgName, wgTup, wgsCons, wgsNil, wgSub, wM, wFrz, wDGet, wDIn, wDPut, wDNew, wRevT, wSl, wPart, wNoPart, wWhile, wSKey, wLcM, wLcD, wLcDC, wIZipD, wISeqD, wFld, wSFld, wMeth, wMake, wLc2, wStepL, wipeE, startE, List.map, List.length, List.cons_append, List.nil_append, List.append_nil, List.getElem?_cons_succ, List.getElem?_cons_zero, List.set_cons_succ, List.set_cons_zero, List.replicate, Nat.reduceAdd, Nat.reduceSub, if_true, if_false, Bool.false_eq_true, reduceIte, true_and, and_true]
        refine lc_map D.int (fun x : Int => decide (x ≠ 0)) D.int r (fun x hx acc2 R2 hacc2 hR2 => ?_) (by rw [(hrb2 r hr).1]; simp only [sizeLine]; omega) ?_
        · simp only [wRet, wRetN, wLc, wLcC, wIZip, wIEnum, wISeq, wIRng1, wIRng2, wCons, wVar, wNil, wSeq, wSet, wAsg, wPar, wIf, wTest, wNext, wDrop, wOp, wUn, wCB, wC, wFor, wAug, wAugL, wAugS, wTup, wLst, wLstC, wNot, wAnd, wOr, wAndV, wOrV, wIfE, wCall, wYes, wgName, wgTup, wgsCons, wgsNil, wgSub, wM, wFrz, wDGet, wDIn, wDPut, wDNew, wRevT, wSl, wPart, wNoPart, wWhile, wSKey, wLcM, wLcD, wLcDC, wIZipD, wISeqD, wFld, wSFld, wMeth, wMake, wLc2, wStepL, wipeE, startE, List.map, List.length, List.cons_append, List.nil_append, List.append_nil, List.getElem?_cons_succ, List.getElem?_cons_zero, List.set_cons_succ, List.set_cons_zero, List.replicate, Nat.reduceAdd, Nat.reduceSub, if_true, if_false, Bool.false_eq_true, reduceIte, true_and, and_true, roNe]
          by_cases hx : x = 0
          · simp only [hx, ne_eq, not_true_eq_false, decide_false, decide_true, Bool.not_true, Bool.false_eq_true, if_false, true_and] at hR2 ⊢; exact hR2
          · simp only [hx, ne_eq, not_false_eq_true, decide_true, decide_false, Bool.not_false, if_true, true_and] at hR2 ⊢; exact ⟨hacc2, hR2⟩
        · refine ⟨by decide, roNe_nil (sh_ints _) ?_⟩
          simp only [List.isEmpty_map]
          cases hq : (r.filter fun x => decide (x ≠ 0)).isEmpty with
          | true => rw [hq] at hR; simpa using hR
          | false => rw [hq] at hR; exact ⟨hacc, by simpa using hR⟩
      · refine ⟨by decide, roEq_nil (sh_rowsT _) ?_⟩
        simp only [List.isEmpty_map]
        cases hq : (rows2.filter fun r : Row => !(r.filter fun x => decide (x ≠ 0)).isEmpty).isEmpty with
        | true =>
          simp only [if_true, roMul, lviewM, moAppend, coTuple, seqArg, lview, hpg, hps]
          have e0 : (List.replicate ((n : Int)).toNat [D.int 2]).flatten = (List.replicate n (2 : Int)).map D.int := by
            rw [rng_to]
            generalize n = m
            induction m with
            | zero => rfl
            | succ m ih => rw [List.replicate_succ, List.replicate_succ, List.flatten_cons, ih]; rfl
          rw [e0]
          have e2 : rows2.map rowT ++ [D.tup ((List.replicate n (2 : Int)).map D.int)] = (rows2 ++ [List.replicate n (2 : Int)]).map rowT := by rw [List.map_append (l₁ := rows2)]; rfl
          rw [e2]
          refine ⟨by simp only [tyM, tyName, hpg]; rfl, by decide, by omega, by omega, by simp only [List.length_singleton, sizeLine]; omega, by rw [List.length_map]; simp only [sizeLine]; omega, hnx _ _ ⟨rows2 ++ [List.replicate n (2 : Int)], _, _, rfl, by simp, by rw [List.length_append, List.length_singleton]; omega, fun r hr => ?_, ⟨_, List.mem_append_right _ (List.mem_singleton.mpr rfl), 2, by simp; omega, by decide⟩, rfl⟩⟩
          rcases List.mem_append.mp hr with h | h
          · exact hrb2 r h
          · rw [List.mem_singleton.mp h]
            exact ⟨by simp, fun x hx => by rw [List.eq_of_mem_replicate hx]; decide⟩
        | false =>
          simp only [Bool.false_eq_true, if_false]
          obtain ⟨r0, hr0m⟩ : ∃ r0, r0 ∈ rows2.filter fun r : Row => !(r.filter fun x => decide (x ≠ 0)).isEmpty := by
            cases hc : rows2.filter fun r : Row => !(r.filter fun x => decide (x ≠ 0)).isEmpty with
            | nil => rw [hc] at hq; simp at hq
            | cons a l => exact ⟨a, List.mem_cons_self ..⟩
          obtain ⟨m1, m2⟩ := List.mem_filter.mp hr0m
          obtain ⟨x0, hx0m⟩ : ∃ x0, x0 ∈ r0.filter fun x => decide (x ≠ 0) := by
            cases hc : r0.filter fun x => decide (x ≠ 0) with
            | nil => rw [hc] at m2; simp at m2
            | cons a l => exact ⟨a, List.mem_cons_self ..⟩
          obtain ⟨m3, m4⟩ := List.mem_filter.mp hx0m
          exact hnx _ _ ⟨rows2, _, _, rfl, List.length_pos_of_mem m1, by omega, hrb2, ⟨r0, m1, x0, m3, by simpa using m4⟩, rfl⟩
    obtain ⟨rw3, o8', o11', rfl, hr0, hr6, hrb3, hnz, rfl⟩ := hJ
    obtain ⟨B, hB⟩ := TM n rw3 hn0 hn4 hr0 hr6 hrb3 hnz
    obtain ⟨Hh, G1, Eu, F, l1, l2, l3⟩ := hB.lb
    obtain ⟨J1, j1, j2, j3⟩ := hB.eb
    obtain ⟨G, q, g1, g2, g3⟩ := hB.G
    have hBn := hB.len
    simp only [wRet, wRetN, wLc, wLcC, wIZip, wIEnum, wISeq, wIRng1, wIRng2, wCons, wVar, wNil, wSeq, wSet, wAsg, wPar, wTest, wNext, wDrop, wOp, wUn, wCB, wC, wAug, wAugL, wAugS, wTup, wLst, wLstC, wNot, wAnd, wOr, wAndV, wOrV, wCall, wYes, wgName, wgTup, wgsCons, wgsNil, wgSub, wM, wFrz, wDGet, wDIn, wDPut, wDNew, wRevT, wSl, wPart, wNoPart, wWhile, wSKey, wLcM, wLcD, wLcDC, wIZipD, wISeqD, wFld, wSFld, wMeth, wMake, wLc2, wStepL, wipeE, startE, List.map, List.length, List.cons_append, List.nil_append, List.append_nil, List.getElem?_cons_succ, List.getElem?_cons_zero, List.set_cons_succ, List.set_cons_zero, List.replicate, Nat.reduceAdd, Nat.reduceSub, if_true, if_false, Bool.false_eq_true, reduceIte, true_and, and_true, coTuple, seqArg, lview, hpg]
    refine ⟨rw3, n, Hh, G1, Eu, F, rfl, by omega, hr0, fun r hr => (hrb3 r hr).1, by omega, l1, l2, fun held ks found hF => ?_⟩
    rw [l3 held ks found hF]
    simp only [hpg]
    refine ⟨rw3, n, J1, rfl, by omega, hr0, fun r hr => (hrb3 r hr).1, by omega, j1, j2, fun found rows' hJ => ?_⟩
    rw [j3 found rows' hJ]
    refine ⟨B, n, G, q, rfl, hB.pos, hBn, by omega, hB.row, g1, g2, fun A' U' q' hA hU hG => ?_⟩
    rw [hA] at hG
    have hC := g3 A' U' q' hG
    generalize checksL A' U' n = C at hC ⊢
    have ho5 := ho4.up (show _ ≤ 3000 * (i : Int) + 50 by omega) (by omega)
    generalize q23 + 1 = q25 at ho5 ⊢
    generalize (ν ++ [.lst (rw3.map rowT)]) = ν1
    refine if_step (fun ε' μ' => ∃ (o10 : Option D), ε' = [some (D.fl (List.map D.int s)), some (D.ref 1), some (D.int (i : Nat)), some (D.int (n : Nat)), some (D.ref (ν.length + 2)), some (D.tup (List.map rowT B)), some (D.tup (List.map chkT C)), o7, o8', o9, o10, o11', o12, o13, o14] ∧ μ' = potM cs4 q14 q25 ν1) (fun nx' hnx => ?_) (fun ε' μ' hJ => ?_)
    · have kt : kitB "tuple" "tuple" = some true := by first | rfl | decide +kernel
      have gl : decide ((n : Int) < (C.length : Nat)) = false := by have := hC.len; simpa using this
      simp only [wRet, wRetN, wLc, wLcC, wIZip, wIEnum, wISeq, wIRng1, wIRng2, wCons, wVar, wNil, wSeq, wSet, wAsg, wPar, wIf, wTest, wNext, wDrop, wOp, wUn, wCB, wC, wFor, wAug, wAugL, wAugS, wTup, wLst, wLstC, wNot, wAnd, wOr, wAndV, wOrV, wIfE, wCall, wYes, wgName, wgTup, wgsCons, wgsNil, wgSub, wM, wFrz, wDGet, wDIn, wDPut, wDNew, wRevT, wSl, wPart, wNoPart, wWhile, wSKey, wLcM, wLcD, wLcDC, wIZipD, wISeqD, wFld, wSFld, wMeth, wMake, wLc2, wStepL, wipeE, startE, List.map, List.length, List.cons_append, List.nil_append, List.append_nil, List.getElem?_cons_succ, List.getElem?_cons_zero, List.set_cons_succ, List.set_cons_zero, List.replicate, Nat.reduceAdd, Nat.reduceSub, if_true, if_false, Bool.false_eq_true, reduceIte, true_and, and_true, coIsi, tyName, kt, Bool.not_true, coLen, List.length_map, roGt, roI0, gl]
      refine lc_all chkT (fun _ => D.bl true) C (fun c hc acc R hacc hR => ?_) (by have := hC.len; simp only [sizeLine]; omega) ?_
      · simp only [wRet, wRetN, wLc, wLcC, wIZip, wIEnum, wISeq, wIRng1, wIRng2, wCons, wVar, wNil, wSeq, wSet, wAsg, wPar, wIf, wTest, wNext, wDrop, wOp, wUn, wCB, wC, wFor, wAug, wAugL, wAugS, wTup, wLst, wLstC, wNot, wAnd, wOr, wAndV, wOrV, wIfE, wCall, wYes, wgName, wgTup, wgsCons, wgsNil, wgSub, wM, wFrz, wDGet, wDIn, wDPut, wDNew, wRevT, wSl, wPart, wNoPart, wWhile, wSKey, wLcM, wLcD, wLcDC, wIZipD, wISeqD, wFld, wSFld, wMeth, wMake, wLc2, wStepL, wipeE, startE, List.map, List.length, List.cons_append, List.nil_append, List.append_nil, List.getElem?_cons_succ, List.getElem?_cons_zero, List.set_cons_succ, List.set_cons_zero, List.replicate, Nat.reduceAdd, Nat.reduceSub, if_true, if_false, Bool.false_eq_true, reduceIte, true_and, and_true]
        obtain ⟨f1, f2, f3⟩ := hC.form c hc
        exact ⟨c.1, c.2, n, rfl, f1, f2, f3, by omega, hacc, hR⟩
      · have e : C.map (fun _ => D.bl true) = (C.map fun _ => true).map D.bl := by rw [List.map_map]; rfl
        have e9 : blsD ((C.map fun _ => true).map D.bl) = some (C.map fun _ => true) := blsD_map _
        rw [e]
        simp only [coAll, listArg, lview, Option.bind, e9]
        have e8 : (C.map fun _ => true).all id = true := by simp
        rw [e8]
        simp only [Bool.not_true, Bool.false_eq_true, if_false]
        exact hnx _ _ ⟨_, rfl, rfl⟩
    obtain ⟨o10', rfl, rfl⟩ := hJ
    simp only [wRet, wRetN, wLc, wLcC, wIZip, wIEnum, wISeq, wIRng1, wIRng2, wCons, wVar, wNil, wSeq, wSet, wAsg, wPar, wTest, wNext, wDrop, wOp, wUn, wCB, wC, wAug, wAugL, wAugS, wTup, wLst, wLstC, wNot, wAnd, wOr, wAndV, wOrV, wCall, wYes, wgName, wgTup, wgsCons, wgsNil, wgSub, wM, wFrz, wDGet, wDIn, wDPut, wDNew, wRevT, wSl, wPart, wNoPart, wWhile, wSKey, wLcM, wLcD, wLcDC, wIZipD, wISeqD, wFld, wSFld, wMeth, wMake, wLc2, wStepL, wipeE, startE, List.map, List.length, List.cons_append, List.nil_append, List.append_nil, List.getElem?_cons_succ, List.getElem?_cons_zero, List.set_cons_succ, List.set_cons_zero, List.replicate, Nat.reduceAdd, Nat.reduceSub, if_true, if_false, Bool.false_eq_true, reduceIte, true_and, and_true]
    refine ifE_step2 (fun d ε' μ' => ∃ (tried : List Row) (cs : List Int) (q1 q2 : Int) (o12 o13 : Option D), d = .lst (tried.map rowT) ∧ tried.length ≤ 1331 ∧ (∀ r ∈ tried, Sm 6 n r) ∧ PotOk s.length cs q2 (3000 * (i : Nat) + 1300) ∧
      ε' = [some (D.fl (List.map D.int s)), some (D.ref 1), some (D.int (i : Nat)), some (D.int (n : Nat)), some (D.ref (ν.length + 2)), some (D.tup (List.map rowT B)), some (D.tup (List.map chkT C)), o7, o8', o9, o10', o11', o12, o13, o14] ∧ μ' = potM cs q1 q2 ν1) (fun k3 hk3 => ?_) (fun d ε' μ' hJ => ?_)
    · simp only [wRet, wRetN, wLc, wLcC, wIZip, wIEnum, wISeq, wIRng1, wIRng2, wCons, wVar, wNil, wSeq, wSet, wAsg, wPar, wIf, wTest, wNext, wDrop, wOp, wUn, wCB, wC, wFor, wAug, wAugL, wAugS, wTup, wLst, wLstC, wNot, wAnd, wOr, wAndV, wOrV, wIfE, wCall, wYes, wgName, wgTup, wgsCons, wgsNil, wgSub, wM, wFrz, wDGet, wDIn, wDPut, wDNew, wRevT, wSl, wPart, wNoPart, wWhile, wSKey, wLcM, wLcD, wLcDC, wIZipD, wISeqD, wFld, wSFld, wMeth, wMake, wLc2, wStepL, wipeE, startE, List.map, List.length, List.cons_append, List.nil_append, List.append_nil, List.getElem?_cons_succ, List.getElem?_cons_zero, List.set_cons_succ, List.set_cons_zero, List.replicate, Nat.reduceAdd, Nat.reduceSub, if_true, if_false, Bool.false_eq_true, reduceIte, true_and, and_true, roLt, roI0]
      by_cases h4 : n < 4
      · have hd : decide ((n : Int) < 4) = true := decide_eq_true (by omega)
        simp only [hd, if_true]
        refine ⟨n, rfl, by omega, hk3 _ _ _ ⟨boxL n, cs4, q14, q25, _, _, rfl, ?_, fun r hr => ⟨boxL_row n r hr, fun x hx => by have := boxL_sm n r hr x hx; omega⟩, ho5.up (by omega) (by omega), rfl, rfl⟩⟩
        rw [boxL_length]
        rcases (show n = 0 ∨ n = 1 ∨ n = 2 ∨ n = 3 by omega) with e | e | e | e <;> subst e <;> decide
      · have hd : decide ((n : Int) < 4) = false := decide_eq_false (by omega)
        simp only [hd, Bool.false_eq_true, if_false]
        refine ⟨by decide, by decide, ?_⟩
        refine lc_list _ (List.range 300) (fun j acc μ' => ∃ (rows : List Row) (cs : List Int) (q1 q2 : Int), rows.length = j ∧ acc = rows.map rowT ∧ (∀ r ∈ rows, Sm 6 n r) ∧ PotOk s.length cs q2 (3000 * (i : Nat) + 50 + 4 * (j : Nat)) ∧ μ' = potM cs q1 q2 ν1)
          (fun j a acc μ' R hja hJ hR => ?_) (fun acc μ' hJ => ?_) ⟨[], cs4, q14, _, rfl, rfl, fun x hx => absurd hx (by simp), by simpa using ho5, rfl⟩
        · obtain ⟨rows, cs, q1, q2, hl, rfl, hb, hpo, rfl⟩ := hJ
          have hj5 : j < 300 := by have := (List.getElem?_eq_some_iff.mp hja).1; simpa using this
          simp only [wRet, wRetN, wLc, wLcC, wIZip, wIEnum, wISeq, wIRng1, wIRng2, wCons, wVar, wNil, wSeq, wSet, wAsg, wPar, wIf, wTest, wNext, wDrop, wOp, wUn, wCB, wC, wFor, wAug, wAugL, wAugS, wTup, wLst, wLstC, wNot, wAnd, wOr, wAndV, wOrV, wIfE, wCall, wYes, wgName, wgTup, wgsCons, wgsNil, wgSub, wM, wFrz, wDGet, wDIn, wDPut, wDNew, wRevT, wSl, wPart, wNoPart, wWhile, wSKey, wLcM, wLcD, wLcDC, wIZipD, wISeqD, wFld, wSFld, wMeth, wMake, wLc2, wStepL, wipeE, startE, List.map, List.length, List.cons_append, List.nil_append, List.append_nil, List.getElem?_cons_succ, List.getElem?_cons_zero, List.set_cons_succ, List.set_cons_zero, List.replicate, Nat.reduceAdd, Nat.reduceSub, if_true, if_false, Bool.false_eq_true, reduceIte, true_and, and_true]
          refine ⟨by omega, by omega, ?_⟩
          rw [rng_to]
          refine lc_list _ (List.range n) (fun m acc μ' => ∃ (r : Row) (cs : List Int) (q1 q2 : Int), acc = r.map D.int ∧ Sm 6 m r ∧ PotOk s.length cs q2 (3000 * (i : Nat) + 50 + 4 * (j : Nat) + (m : Nat)) ∧ μ' = potM cs q1 q2 ν1)
            (fun m a acc μ' R2 hja hJ hR2 => ?_) (fun acc μ' hJ => ?_) ⟨[], cs, q1, q2, rfl, ⟨rfl, fun x hx => absurd hx (by simp)⟩, by simpa using hpo, rfl⟩
          · obtain ⟨r, cs, q1, q2, rfl, hr, hpo, rfl⟩ := hJ
            have hm5 : m < n := by have := (List.getElem?_eq_some_iff.mp hja).1; simpa using this
            simp only [wRet, wRetN, wLc, wLcC, wIZip, wIEnum, wISeq, wIRng1, wIRng2, wCons, wVar, wNil, wSeq, wSet, wAsg, wPar, wIf, wTest, wNext, wDrop, wOp, wUn, wCB, wC, wFor, wAug, wAugL, wAugS, wTup, wLst, wLstC, wNot, wAnd, wOr, wAndV, wOrV, wIfE, wCall, wYes, wgName, wgTup, wgsCons, wgsNil, wgSub, wM, wFrz, wDGet, wDIn, wDPut, wDNew, wRevT, wSl, wPart, wNoPart, wWhile, wSKey, wLcM, wLcD, wLcDC, wIZipD, wISeqD, wFld, wSFld, wMeth, wMake, wLc2, wStepL, wipeE, startE, List.map, List.length, List.cons_append, List.nil_append, List.append_nil, List.getElem?_cons_succ, List.getElem?_cons_zero, List.set_cons_succ, List.set_cons_zero, List.replicate, Nat.reduceAdd, Nat.reduceSub, if_true, if_false, Bool.false_eq_true, reduceIte, true_and, and_true]
            refine hpo.draw (by omega) (by omega) fun x2 cs2 q1' hx2 hx3 ho2 => ?_
            simp only [roI0]
            refine ⟨by rw [List.length_map, hr.1]; simp only [sizeLine]; omega, hR2 _ _ ⟨r ++ [x2 - 6], cs2, q1', _, by simp, hr.snoc (by omega), ho2 _ (by omega) (by omega), rfl⟩⟩
          · obtain ⟨r, cs, q1, q2, rfl, hr, hpo, rfl⟩ := hJ
            simp only [List.length_range] at hr hpo
            simp only [coTuple, seqArg, lview]
            refine ⟨by rw [List.length_map, hl]; simp only [sizeLine]; omega, hR _ _ ⟨rows ++ [r], cs, q1, q2, by simp [hl], by simp [rowT], fun y hy => ?_, hpo.up (by omega) (by omega), rfl⟩⟩
            rcases List.mem_append.mp hy with h | h
            · exact hb y h
            · rw [List.mem_singleton.mp h]; exact hr
        · obtain ⟨rows, cs, q1, q2, hl, rfl, hb, hpo, rfl⟩ := hJ
          simp only [List.length_range] at hl hpo
          exact hk3 _ _ _ ⟨rows, cs, q1, q2, _, _, rfl, by omega, hb, hpo.up (by omega) (by omega), rfl, rfl⟩
    obtain ⟨tried, cs6, q16, q26, o12', o13', rfl, htl, htb, ho6, rfl, rfl⟩ := hJ
    simp only [wRet, wRetN, wLc, wLcC, wIZip, wIEnum, wISeq, wIRng1, wIRng2, wCons, wVar, wNil, wSeq, wSet, wAsg, wPar, wTest, wNext, wDrop, wOp, wUn, wCB, wC, wAug, wAugL, wAugS, wTup, wLst, wLstC, wNot, wAnd, wOr, wAndV, wOrV, wCall, wYes, wgName, wgTup, wgsCons, wgsNil, wgSub, wM, wFrz, wDGet, wDIn, wDPut, wDNew, wRevT, wSl, wPart, wNoPart, wWhile, wSKey, wLcM, wLcD, wLcDC, wIZipD, wISeqD, wFld, wSFld, wMeth, wMake, wLc2, wStepL, wipeE, startE, List.map, List.length, List.cons_append, List.nil_append, List.append_nil, List.getElem?_cons_succ, List.getElem?_cons_zero, List.set_cons_succ, List.set_cons_zero, List.replicate, Nat.reduceAdd, Nat.reduceSub, if_true, if_false, Bool.false_eq_true, reduceIte, true_and, and_true]
    refine ⟨by decide, by decide, ?_⟩
    refine lc_list _ (List.range 5) (fun j acc μ' => ∃ (rows : List Row) (cs : List Int) (q1 q2 : Int), rows.length = j ∧ acc = rows.map rowT ∧ (∀ r ∈ rows, r.length = n ∧ Bd 200 r) ∧ PotOk s.length cs q2 (3000 * (i : Nat) + 1300 + 4 * (j : Nat)) ∧ μ' = potM cs q1 q2 ν1)
      (fun j a acc μ' R hja hJ hR => ?_) (fun acc μ' hJ => ?_) ⟨[], cs6, q16, _, rfl, rfl, fun x hx => absurd hx (by simp), by simpa using ho6, rfl⟩
    · obtain ⟨rows, cs, q1, q2, hl, rfl, hb, hpo, rfl⟩ := hJ
      have hj5 : j < 5 := by have := (List.getElem?_eq_some_iff.mp hja).1; simpa using this
      simp only [wRet, wRetN, wLc, wLcC, wIZip, wIEnum, wISeq, wIRng1, wIRng2, wCons, wVar, wNil, wSeq, wSet, wAsg, wPar, wIf, wTest, wNext, wDrop, wOp, wUn, wCB, wC, wFor, wAug, wAugL, wAugS, wTup, wLst, wLstC, wNot, wAnd, wOr, wAndV, wOrV, wIfE, wCall, wYes, wgName, wgTup, wgsCons, wgsNil, wgSub, wM, wFrz, wDGet, wDIn, wDPut, wDNew, wRevT, wSl, wPart, wNoPart, wWhile, wSKey, wLcM, wLcD, wLcDC, wIZipD, wISeqD, wFld, wSFld, wMeth, wMake, wLc2, wStepL, wipeE, startE, List.map, List.length, List.cons_append, List.nil_append, List.append_nil, List.getElem?_cons_succ, List.getElem?_cons_zero, List.set_cons_succ, List.set_cons_zero, List.replicate, Nat.reduceAdd, Nat.reduceSub, if_true, if_false, Bool.false_eq_true, reduceIte, true_and, and_true]
      refine lc_list rowT B (fun m acc μ' => ∃ (r : Row) (cs : List Int) (q1 q2 : Int), acc = r.map D.int ∧ r.length = m ∧ (∀ x ∈ r, x.natAbs ≤ 10 ^ 9) ∧ PotOk s.length cs q2 (3000 * (i : Nat) + 1300 + 4 * (j : Nat) + (m : Nat)) ∧ μ' = potM cs q1 q2 ν1)
        (fun m a acc μ' R2 hja hJ hR2 => ?_) (fun acc μ' hJ => ?_) ⟨[], cs, q1, q2, rfl, rfl, fun x hx => absurd hx (by simp), by simpa using hpo, rfl⟩
      · obtain ⟨r, cs, q1, q2, rfl, hr, hrx, hpo, rfl⟩ := hJ
        have hm5 : m < B.length := (List.getElem?_eq_some_iff.mp hja).1
        simp only [wRet, wRetN, wLc, wLcC, wIZip, wIEnum, wISeq, wIRng1, wIRng2, wCons, wVar, wNil, wSeq, wSet, wAsg, wPar, wIf, wTest, wNext, wDrop, wOp, wUn, wCB, wC, wFor, wAug, wAugL, wAugS, wTup, wLst, wLstC, wNot, wAnd, wOr, wAndV, wOrV, wIfE, wCall, wYes, wgName, wgTup, wgsCons, wgsNil, wgSub, wM, wFrz, wDGet, wDIn, wDPut, wDNew, wRevT, wSl, wPart, wNoPart, wWhile, wSKey, wLcM, wLcD, wLcDC, wIZipD, wISeqD, wFld, wSFld, wMeth, wMake, wLc2, wStepL, wipeE, startE, List.map, List.length, List.cons_append, List.nil_append, List.append_nil, List.getElem?_cons_succ, List.getElem?_cons_zero, List.set_cons_succ, List.set_cons_zero, List.replicate, Nat.reduceAdd, Nat.reduceSub, if_true, if_false, Bool.false_eq_true, reduceIte, true_and, and_true, roPow, roI]
        refine ⟨⟨by decide, by decide, by decide⟩, ?_⟩
        refine hpo.draw (by decide) (by decide) fun x2 cs2 q1' hx2 hx3 ho2 => ?_
        have hx3 : x2 < 10 ^ 9 := hx3
        simp only [roI0]
        refine ⟨by rw [List.length_map, hr]; simp only [sizeLine]; omega, hR2 _ _ ⟨r ++ [x2 - 9], cs2, q1', _, by simp, by simp [hr], fun y hy => ?_, ho2 _ (by omega) (by omega), rfl⟩⟩
        rcases List.mem_append.mp hy with h | h
        · exact hrx y h
        · rw [List.mem_singleton.mp h]; omega
      · obtain ⟨r, cs, q1, q2, rfl, hr, hrx, hpo, rfl⟩ := hJ
        refine ⟨r, B, n, rfl, by omega, by omega, hr, hB.row, fun x hx y => mul_l (by have := hrx x hx; omega) (by have := hrx x hx; omega), ?_⟩
        refine ⟨by rw [List.length_map, hl]; simp only [sizeLine]; omega, hR _ _ ⟨rows ++ [sumL r B n], cs, q1, q2, by simp [hl], by simp, fun y hy => ?_, hpo.up (by omega) (by omega), rfl⟩⟩
        rcases List.mem_append.mp hy with h | h
        · exact hb y h
        · rw [List.mem_singleton.mp h]; exact ⟨sumL_length _ _ _, hB.sb r hr hrx⟩
    obtain ⟨rows5, cs7, q17, q27, hl5, rfl, hb5, ho7, rfl⟩ := hJ
    simp only [List.length_range] at hl5 ho7
    have ho7 := ho7.up (show _ ≤ 3000 * ((i + 1 : Nat) : Int) by omega) (by omega)
    simp only [roAdd, lviewM]
    refine ⟨by rw [List.length_map, List.length_map]; simp only [sizeLine]; omega, ?_⟩
    rw [← List.map_append]
    have htr : ∀ r ∈ tried ++ rows5, r.length = n ∧ Bd 200 r := fun r hr => by
      rcases List.mem_append.mp hr with h | h
      · obtain ⟨a, b⟩ := htb r h
        exact ⟨a, fun x hx => Nat.lt_of_le_of_lt (b x hx) (by decide)⟩
      · exact hb5 r h
    generalize (tried ++ rows5) = tr at htr ⊢
    simp only [wFor, wISeq, wVar, List.map, List.length, List.cons_append, List.nil_append, List.append_nil, List.getElem?_cons_succ, List.getElem?_cons_zero, List.set_cons_succ, List.set_cons_zero, List.replicate, Nat.reduceAdd, Nat.reduceSub, if_true, if_false, Bool.false_eq_true, reduceIte, true_and, and_true]
    generalize hmc : potM cs7 q17 q27 ν1 = μc at hk' ⊢
    refine for_inv rowT (fun l ε μ' => (∀ r ∈ l, r.length = n ∧ Bd 200 r) ∧ μ' = μc ∧ ∃ (o8 o9 o10 : Option D), ε = [some (.fl (s.map D.int)), some (.ref 1), some (.int (i : Nat)), some (.int (n : Nat)), some (D.ref (ν.length + 2)), some (.tup (B.map rowT)), some (.tup (C.map chkT)), some (.lst (tr.map rowT)), o8, o9, o10, o11', o12', o13', o14])
      (fun one l ε μ' k3 hJ hk3 => ?_) (fun ε μ' hJ => ?_) tr _ _ ⟨htr, rfl, _, _, _, rfl⟩
    · obtain ⟨hl, rfl, o8, o9, o10, rfl⟩ := hJ
      obtain ⟨g1, g2⟩ := hl one (List.mem_cons_self ..)
      simp only [wRet, wRetN, wLc, wLcC, wIZip, wIEnum, wISeq, wIRng1, wIRng2, wCons, wVar, wNil, wSeq, wSet, wAsg, wPar, wIf, wTest, wNext, wDrop, wOp, wUn, wCB, wC, wFor, wAug, wAugL, wAugS, wTup, wLst, wLstC, wNot, wAnd, wOr, wAndV, wOrV, wIfE, wCall, wYes, wgName, wgTup, wgsCons, wgsNil, wgSub, wM, wFrz, wDGet, wDIn, wDPut, wDNew, wRevT, wSl, wPart, wNoPart, wWhile, wSKey, wLcM, wLcD, wLcDC, wIZipD, wISeqD, wFld, wSFld, wMeth, wMake, wLc2, wStepL, wipeE, startE, List.map, List.length, List.cons_append, List.nil_append, List.append_nil, List.getElem?_cons_succ, List.getElem?_cons_zero, List.set_cons_succ, List.set_cons_zero, List.replicate, Nat.reduceAdd, Nat.reduceSub, if_true, if_false, Bool.false_eq_true, reduceIte, true_and, and_true]
      refine ⟨B, one, n, rfl, g1, by omega, hB.sp one g1 g2, ?_⟩
      refine lc_map chkT (fun c => !keepsB c.1 c.2 one) chkT C (fun c hc acc R hacc hR => ?_) (by have := hC.len; simp only [sizeLine]; omega) ?_
      · simp only [wRet, wRetN, wLc, wLcC, wIZip, wIEnum, wISeq, wIRng1, wIRng2, wCons, wVar, wNil, wSeq, wSet, wAsg, wPar, wIf, wTest, wNext, wDrop, wOp, wUn, wCB, wC, wFor, wAug, wAugL, wAugS, wTup, wLst, wLstC, wNot, wAnd, wOr, wAndV, wOrV, wIfE, wCall, wYes, wgName, wgTup, wgsCons, wgsNil, wgSub, wM, wFrz, wDGet, wDIn, wDPut, wDNew, wRevT, wSl, wPart, wNoPart, wWhile, wSKey, wLcM, wLcD, wLcDC, wIZipD, wISeqD, wFld, wSFld, wMeth, wMake, wLc2, wStepL, wipeE, startE, List.map, List.length, List.cons_append, List.nil_append, List.append_nil, List.getElem?_cons_succ, List.getElem?_cons_zero, List.set_cons_succ, List.set_cons_zero, List.replicate, Nat.reduceAdd, Nat.reduceSub, if_true, if_false, Bool.false_eq_true, reduceIte, true_and, and_true]
        obtain ⟨f1, f2, f3⟩ := hC.form c hc
        refine ⟨c.1, c.2, one, _, rfl, seqR_T one, by omega, by omega, hC.mul c hc one g1 g2, ?_⟩
        cases hkp : keepsB c.1 c.2 one with
        | true => simpa [hkp] using hR
        | false => simpa [hkp, hacc] using hR
      · refine ⟨by decide, roEq_nil (sh_chk _) ?_⟩
        simp only [List.isEmpty_map, roNe]
        rw [filter_none (fun c : Int × List Int => keepsB c.1 c.2 one) C, hC.eq one g1 g2]
        simp only [decide_true, Bool.not_true, Bool.false_eq_true, if_false]
        exact hk3 _ _ ⟨fun r hr => hl r (List.mem_cons_of_mem _ hr), rfl, _, _, _, rfl⟩
    · obtain ⟨_, hμ9, o8, o9, o10, rfl⟩ := hJ
      generalize μ' = μ9 at hμ9 ⊢
      simp only [wFor, wISeq, wVar, wStepL, lview, List.map, List.length, List.cons_append, List.nil_append, List.append_nil, List.getElem?_cons_succ, List.getElem?_cons_zero, List.set_cons_succ, List.set_cons_zero, List.replicate, Nat.reduceAdd, Nat.reduceSub, if_true, if_false, Bool.false_eq_true, reduceIte, true_and, and_true, pickL_map]
      have hpk : ∀ r ∈ pickL tr 97, r.length = n ∧ Bd 200 r := fun r hr => htr r (pickL_mem hr)
      generalize pickL tr 97 = pk at hpk ⊢
      refine for_inv rowT (fun l ε μ' => (∀ r ∈ l, r.length = n ∧ Bd 200 r) ∧ μ' = μ9 ∧ ∃ (o8 o9 o10 : Option D), ε = [some (.fl (s.map D.int)), some (.ref 1), some (.int (i : Nat)), some (.int (n : Nat)), some (D.ref (ν.length + 2)), some (.tup (B.map rowT)), some (.tup (C.map chkT)), some (.lst (tr.map rowT)), o8, o9, o10, o11', o12', o13', o14])
        (fun one l ε μ' k3 hJ hk3 => ?_) (fun ε μ' hJ => ?_) pk _ _ ⟨hpk, rfl, _, _, _, rfl⟩
      · obtain ⟨hl, rfl, o8, o9, o10, rfl⟩ := hJ
        obtain ⟨g1, g2⟩ := hl one (List.mem_cons_self ..)
        simp only [wRet, wRetN, wLc, wLcC, wIZip, wIEnum, wISeq, wIRng1, wIRng2, wCons, wVar, wNil, wSeq, wSet, wAsg, wPar, wIf, wTest, wNext, wDrop, wOp, wUn, wCB, wC, wFor, wAug, wAugL, wAugS, wTup, wLst, wLstC, wNot, wAnd, wOr, wAndV, wOrV, wIfE, wCall, wYes, wgName, wgTup, wgsCons, wgsNil, wgSub, wM, wFrz, wDGet, wDIn, wDPut, wDNew, wRevT, wSl, wPart, wNoPart, wWhile, wSKey, wLcM, wLcD, wLcDC, wIZipD, wISeqD, wFld, wSFld, wMeth, wMake, wLc2, wStepL, wipeE, startE, List.map, List.length, List.cons_append, List.nil_append, List.append_nil, List.getElem?_cons_succ, List.getElem?_cons_zero, List.set_cons_succ, List.set_cons_zero, List.replicate, Nat.reduceAdd, Nat.reduceSub, if_true, if_false, Bool.false_eq_true, reduceIte, true_and, and_true]
        have gs := hB.sp one g1 g2
        refine ⟨B, one, n, rfl, g1, by omega, gs, ?_⟩
        refine ⟨B, one, n, rfl, g1, by omega, gs, ?_⟩
        refine ⟨_, rfl, .inr ⟨_, rfl⟩, ?_⟩
        simp only [Bool.not_true, Bool.false_eq_true, if_false, rowT, roAdd]
        have e3 : C.map chkT ++ [D.tup [D.int 0, D.tup (one.map D.int)], D.tup [D.int 2, D.tup (one.map D.int)], D.tup [D.int 5, D.tup (one.map D.int).reverse]] = (C ++ [(0, one), (2, one), (5, one.reverse)]).map chkT := by
          rw [List.map_append (l₁ := C)]
          simp [chkT, chkD, rowT]
        refine ⟨by decide, by decide, by decide, by decide, by simp only [List.length_map, sizeLine, List.length_cons, List.length_nil]; have := hC.len; omega, ?_⟩
        rw [e3]
        refine for_inv chkT (fun l ε μ' => (∀ c ∈ l, c.2.length = n ∧ ∀ x ∈ c.2, ∀ y ∈ one, IntMulOk x y) ∧ μ' = μc ∧ ∃ (o9 o10 : Option D), ε = [some (.fl (s.map D.int)), some (.ref 1), some (.int (i : Nat)), some (.int (n : Nat)), some (D.ref (ν.length + 2)), some (.tup (B.map rowT)), some (.tup (C.map chkT)), some (.lst (tr.map rowT)), some (rowT one), o9, o10, o11', o12', o13', o14])
          (fun c l ε μ' k4 hJ hk4 => ?_) (fun ε μ' hJ => ?_) _ _ _ ⟨fun c hc => ?_, hμ9, _, _, rfl⟩
        · obtain ⟨hl2, rfl, o9, o10, rfl⟩ := hJ
          obtain ⟨c1, c2⟩ := hl2 c (List.mem_cons_self ..)
          simp only [wRet, wRetN, wLc, wLcC, wIZip, wIEnum, wISeq, wIRng1, wIRng2, wCons, wVar, wNil, wSeq, wSet, wAsg, wPar, wIf, wTest, wNext, wDrop, wOp, wUn, wCB, wC, wFor, wAug, wAugL, wAugS, wTup, wLst, wLstC, wNot, wAnd, wOr, wAndV, wOrV, wIfE, wCall, wYes, wgName, wgTup, wgsCons, wgsNil, wgSub, wM, wFrz, wDGet, wDIn, wDPut, wDNew, wRevT, wSl, wPart, wNoPart, wWhile, wSKey, wLcM, wLcD, wLcDC, wIZipD, wISeqD, wFld, wSFld, wMeth, wMake, wLc2, wStepL, wipeE, startE, List.map, List.length, List.cons_append, List.nil_append, List.append_nil, List.getElem?_cons_succ, List.getElem?_cons_zero, List.set_cons_succ, List.set_cons_zero, List.replicate, Nat.reduceAdd, Nat.reduceSub, if_true, if_false, Bool.false_eq_true, reduceIte, true_and, and_true]
          refine ⟨c.1, c.2, one, _, rfl, seqR_T one, by omega, by omega, c2, ?_⟩
          refine ⟨c.1, c.2, one, _, rfl, seqR_T one, by omega, by omega, c2, ?_⟩
          refine ⟨_, rfl, .inr ⟨_, rfl⟩, ?_⟩
          simp only [Bool.not_true, Bool.false_eq_true, if_false]
          exact hk4 _ _ ⟨fun c hc => hl2 c (List.mem_cons_of_mem _ hc), rfl, _, _, rfl⟩
        · obtain ⟨_, rfl, o9, o10, rfl⟩ := hJ
          exact hk3 _ _ ⟨fun r hr => hl r (List.mem_cons_of_mem _ hr), hμ9.symm, _, _, _, rfl⟩
        · have mm : ∀ x ∈ one, ∀ y ∈ one, IntMulOk x y := fun x hx y hy => by
            have h1 := g2 x hx
            have h2 := g2 y hy
            exact mulOk200 (Nat.le_refl 200) h1 h2 (by decide)
          rcases List.mem_append.mp hc with h | h
          · exact ⟨(hC.form c h).2.2, hC.mul c h one g1 g2⟩
          · simp only [List.mem_cons, List.not_mem_nil, or_false] at h
            rcases h with h | h | h <;> subst h
            · exact ⟨g1, mm⟩
            · exact ⟨g1, mm⟩
            · exact ⟨by rw [List.length_reverse]; exact g1, fun x hx => mm x (List.mem_reverse.mp hx)⟩
      · obtain ⟨_, rfl, o8, o9, o10, rfl⟩ := hJ
        rw [hμ9, ← hmc]
        exact hk' _ _ ⟨cs7, q17, q27, ν1, _, _, _, _, _, _, _, _, _, _, _, _, _, ho7, rfl, rfl⟩
end
end K86
namespace K86
/-! ### spans -/
abbrev V (r : Row) : Nat → Int := fun i => r.getD i 0
inductive Sp (L : List Row) : (Nat → Int) → Prop
  | zero : Sp L (fun _ => 0)
  | add {v : Nat → Int} {r : Row} (c : Int) : r ∈ L → Sp L v → Sp L (fun i => v i + c * r.getD i 0)
theorem Sp.of {L : List Row} {v w : Nat → Int} (h : Sp L v) (e : ∀ i, v i = w i) : Sp L w := by
  have : v = w := funext e
  rw [← this]
  exact h
theorem Sp.addv {L : List Row} {v w : Nat → Int} (hv : Sp L v) (hw : Sp L w) : Sp L (fun i => v i + w i) := by
  induction hw with
  | zero => exact hv.of fun i => by simp
  | add c hr _ ih => exact (Sp.add c hr ih).of fun i => by simp only; omega
theorem Sp.smul {L : List Row} {v : Nat → Int} (c : Int) (hv : Sp L v) : Sp L (fun i => c * v i) := by
  induction hv with
  | zero => exact Sp.zero.of fun i => by simp
  | add d hr _ ih => exact (Sp.add (c * d) hr ih).of fun i => by simp only; rw [Int.mul_add, Int.mul_assoc]
theorem Sp.mem {L : List Row} {r : Row} (h : r ∈ L) : Sp L (V r) := (Sp.add 1 h Sp.zero).of fun i => by simp
theorem Sp.sub {L L' : List Row} {v : Nat → Int} (h : ∀ r ∈ L, Sp L' (V r)) (hv : Sp L v) : Sp L' v := by
  induction hv with
  | zero => exact .zero
  | add c hr _ ih => exact (ih.addv ((h _ hr).smul c)).of fun i => rfl
theorem Sp.mono {L L' : List Row} {v : Nat → Int} (h : ∀ r ∈ L, r ∈ L') (hv : Sp L v) : Sp L' v := hv.sub fun r hr => Sp.mem (h r hr)
theorem Sp.at0 {L : List Row} {v : Nat → Int} {p : Nat} (h : ∀ r ∈ L, r.getD p 0 = 0) (hv : Sp L v) : v p = 0 := by
  induction hv with
  | zero => rfl
  | add c hr _ ih => simp only [ih, h _ hr, Int.mul_zero, Int.add_zero]
theorem Sp.cons {b : Row} {C : List Row} {v : Nat → Int} (hv : Sp (b :: C) v) : ∃ (m : Int) (w : Nat → Int), Sp C w ∧ ∀ i, v i = m * b.getD i 0 + w i := by
  induction hv with
  | zero => exact ⟨0, _, .zero, fun i => by simp⟩
  | add c hr _ ih =>
    obtain ⟨m, w, hw, e⟩ := ih
    rcases List.mem_cons.mp hr with h | h
    · subst h
      exact ⟨m + c, w, hw, fun i => by show _ + _ = _; rw [e i, Int.add_mul]; omega⟩
    · exact ⟨m, _, Sp.add c h hw, fun i => by show _ + _ = _; rw [e i]; omega⟩
theorem Sp.nil {v : Nat → Int} (hv : Sp [] v) : ∀ i, v i = 0 := by
  induction hv with
  | zero => exact fun _ => rfl
  | add c hr _ _ => cases hr
def SpEq (L L' : List Row) : Prop := ∀ v, Sp L v ↔ Sp L' v
theorem SpEq.refl (L : List Row) : SpEq L L := fun _ => Iff.rfl
theorem SpEq.symm {L L' : List Row} (h : SpEq L L') : SpEq L' L := fun v => (h v).symm
theorem SpEq.trans {L L' L'' : List Row} (h : SpEq L L') (g : SpEq L' L'') : SpEq L L'' := fun v => (h v).trans (g v)
theorem SpEq.of {L L' : List Row} (h : ∀ r ∈ L, Sp L' (V r)) (g : ∀ r ∈ L', Sp L (V r)) : SpEq L L' := fun _ => ⟨Sp.sub h, Sp.sub g⟩
theorem SpEq.sp {L L' : List Row} (h : SpEq L L') {r : Row} (hr : r ∈ L) : Sp L' (V r) := (h _).mp (Sp.mem hr)
/-! ### the normal form -/
structure HN (n : Nat) (B : List Row) : Prop where
  row : ∀ b ∈ B, b.length = n ∧ pv b < n ∧ 0 < b.getD (pv b) 0
  pw : B.Pairwise fun b b' => pv b < pv b' ∧ 0 ≤ b.getD (pv b') 0 ∧ b.getD (pv b') 0 < b'.getD (pv b') 0
theorem HN.tail {n : Nat} {b : Row} {C : List Row} (h : HN n (b :: C)) : HN n C := ⟨fun c hc => h.row c (List.mem_cons_of_mem _ hc), (List.pairwise_cons.mp h.pw).2⟩
theorem pv_before' {r : Row} {j : Nat} (h : j < pv r) : r.getD j 0 = 0 := by
  induction r generalizing j with
  | nil => simp [pv] at h
  | cons y r ih =>
    unfold pv at h
    split at h
    · rename_i hy
      cases j with
      | zero => simpa using hy
      | succ j => simpa using ih (j := j) (by omega)
    · omega
theorem HN.later {n : Nat} {b : Row} {C : List Row} (h : HN n (b :: C)) {c : Row} (hc : c ∈ C) {j : Nat} (hj : j ≤ pv b) : c.getD j 0 = 0 :=
  pv_before' (Nat.lt_of_le_of_lt hj ((List.pairwise_cons.mp h.pw).1 c hc).1)
theorem HN.lead {n : Nat} {b : Row} {C : List Row} (h : HN n (b :: C)) {v : Nat → Int} (hv : Sp (b :: C) v) {j : Nat} (hj : j < pv b) : v j = 0 :=
  hv.at0 fun r hr => by
    rcases List.mem_cons.mp hr with e | e
    · rw [e]; exact pv_before' hj
    · exact h.later e (by omega)
theorem HN.tl {n : Nat} {b : Row} {C : List Row} (h : HN n (b :: C)) {v : Nat → Int} : Sp C v ↔ Sp (b :: C) v ∧ v (pv b) = 0 := by
  constructor
  · intro hv
    exact ⟨hv.mono fun r hr => List.mem_cons_of_mem _ hr, hv.at0 fun r hr => h.later hr (Nat.le_refl _)⟩
  · rintro ⟨hv, h0⟩
    obtain ⟨m, w, hw, e⟩ := hv.cons
    have hw0 : w (pv b) = 0 := hw.at0 fun r hr => h.later hr (Nat.le_refl _)
    have hb := (h.row b (List.mem_cons_self ..)).2.2
    rw [e, hw0, Int.add_zero] at h0
    have hm : m = 0 := by
      rcases Int.mul_eq_zero.mp h0 with z | z
      · exact z
      · omega
    subst hm
    exact hw.of fun i => by rw [e i]; simp
theorem mul_small {m x : Int} (h0 : 0 < x) (h : (m * x).natAbs < x.natAbs) : m = 0 := by
  rw [Int.natAbs_mul] at h
  have hx : 0 < x.natAbs := by omega
  have : m.natAbs < 1 := by
    apply Nat.lt_of_mul_lt_mul_right (a := x.natAbs)
    omega
  omega
theorem HN.small {n : Nat} : ∀ {C : List Row}, HN n C → ∀ {w : Nat → Int}, Sp C w → (∀ c ∈ C, (w (pv c)).natAbs < (c.getD (pv c) 0).natAbs) → ∀ i, w i = 0
  | [], _, w, hw, _ => hw.nil
  | c :: D, h, w, hw, hs => by
    obtain ⟨m, d, hd, e⟩ := hw.cons
    have hd0 : d (pv c) = 0 := hd.at0 fun r hr => h.later hr (Nat.le_refl _)
    have hc := (h.row c (List.mem_cons_self ..)).2.2
    have h1 := hs c (List.mem_cons_self ..)
    rw [e, hd0, Int.add_zero] at h1
    have hm := mul_small hc h1
    subst hm
    have e2 : ∀ i, w i = d i := fun i => by rw [e i]; simp
    have := HN.small h.tail (w := d) hd fun c' hc' => by rw [← e2]; exact hs c' (List.mem_cons_of_mem _ hc')
    exact fun i => by rw [e2]; exact this i
theorem HN.ne {n : Nat} {b : Row} {C : List Row} (h : HN n (b :: C)) (hs : SpEq (b :: C) []) : False := by
  have : b.getD (pv b) 0 = 0 := (hs.sp (List.mem_cons_self ..)).nil (pv b)
  have hb := (h.row b (List.mem_cons_self ..)).2.2
  omega
theorem row_ext {a b : Row} (hl : a.length = b.length) (h : ∀ i, a.getD i 0 = b.getD i 0) : a = b := by
  apply List.ext_getElem hl
  intro i h1 h2
  have := h i
  simpa [h1, h2] using this
theorem one_of {m m' x y : Int} (hx : 0 < x) (hy : 0 < y) (h1 : x = m * y) (h2 : y = m' * x) : x = y ∧ m = 1 := by
  have hm : 0 < m := by
    rcases Int.lt_or_le 0 m with h | h
    · exact h
    · have := Int.mul_nonpos_of_nonpos_of_nonneg h (Int.le_of_lt hy); omega
  have hm' : 0 < m' := by
    rcases Int.lt_or_le 0 m' with h | h
    · exact h
    · have := Int.mul_nonpos_of_nonpos_of_nonneg h (Int.le_of_lt hx); omega
  have a1 : y ≤ x := by
    have := Int.mul_le_mul_of_nonneg_right (show (1 : Int) ≤ m by omega) (Int.le_of_lt hy); omega
  have a2 : x ≤ y := by
    have := Int.mul_le_mul_of_nonneg_right (show (1 : Int) ≤ m' by omega) (Int.le_of_lt hx); omega
  have e : x = y := by omega
  refine ⟨e, ?_⟩
  subst e
  have : (m - 1) * x = 0 := by rw [Int.sub_mul]; omega
  rcases Int.mul_eq_zero.mp this with z | z <;> omega
theorem HN.unique {n : Nat} : ∀ {B B' : List Row}, HN n B → HN n B' → SpEq B B' → B = B'
  | [], [], _, _, _ => rfl
  | [], b :: C, _, h, s => (h.ne s.symm).elim
  | b :: C, [], h, _, s => (h.ne s).elim
  | b :: C, b' :: C', h, h', s => by
    obtain ⟨l1, _, p1⟩ := h.row b (List.mem_cons_self ..)
    obtain ⟨l2, _, p2⟩ := h'.row b' (List.mem_cons_self ..)
    have hb : Sp (b' :: C') (V b) := s.sp (List.mem_cons_self ..)
    have hb' : Sp (b :: C) (V b') := s.symm.sp (List.mem_cons_self ..)
    have ep : pv b = pv b' := by
      rcases Nat.lt_trichotomy (pv b) (pv b') with q | q | q
      · have := h'.lead hb q; simp only [V] at this; omega
      · exact q
      · have := h.lead hb' q; simp only [V] at this; omega
    have sC : SpEq C C' := fun v => by rw [h.tl, h'.tl, s v, ep]
    have eC : C = C' := HN.unique h.tail h'.tail sC
    obtain ⟨m, w, hw, e⟩ := hb.cons
    obtain ⟨m', w', hw', e'⟩ := hb'.cons
    have w0 : w (pv b) = 0 := by rw [ep]; exact hw.at0 fun r hr => h'.later hr (Nat.le_refl _)
    have w0' : w' (pv b) = 0 := hw'.at0 fun r hr => h.later hr (Nat.le_refl _)
    have q1 := e (pv b)
    have q2 := e' (pv b)
    rw [w0, Int.add_zero] at q1
    rw [w0', Int.add_zero] at q2
    rw [← ep] at p2
    obtain ⟨_, hm⟩ := one_of p1 p2 q1 q2
    subst hm
    have wz := HN.small h'.tail hw fun c hc => by
      have g1 := (List.pairwise_cons.mp h'.pw).1 c hc
      have hcC : c ∈ C := by rw [eC]; exact hc
      have g2 := (List.pairwise_cons.mp h.pw).1 c hcC
      have := e (pv c)
      simp only [V] at this
      omega
    have eb : b = b' := row_ext (l1.trans l2.symm) fun i => by
      have := e i
      rw [wz i] at this
      simpa using this
    rw [eb, eC]
end K86
namespace K86
open L2 WL
/-! ### floor division -/
theorem fd_pos {a b : Int} (h : 0 < b) : a = b * a.fdiv b + a.fmod b ∧ 0 ≤ a.fmod b ∧ a.fmod b < b := ⟨(Int.mul_fdiv_add_fmod a b).symm, Int.fmod_nonneg_of_pos a h, Int.fmod_lt_of_pos a h⟩
theorem fd_neg {a b : Int} (h : b < 0) : a = b * a.fdiv b + a.fmod b ∧ a.fmod b ≤ 0 ∧ b < a.fmod b := by
  have h1 := fd_pos (a := -a) (b := -b) (by omega)
  rw [Int.neg_fmod_neg] at h1
  exact ⟨(Int.mul_fdiv_add_fmod a b).symm, by omega, by omega⟩
theorem quo_mul {a b : Int} (h : b ≠ 0) : (a.fdiv b).natAbs * b.natAbs ≤ a.natAbs + b.natAbs := by
  rw [← Int.natAbs_mul]
  have e : a.fdiv b * b = a - a.fmod b := by rw [Int.fmod_def, Int.mul_comm b]; omega
  rw [e]
  rcases Int.lt_or_lt_of_ne h with hb | hb
  · have := fd_neg (a := a) hb; omega
  · have := fd_pos (a := a) hb; omega
theorem quo_le {a b : Int} (h : b ≠ 0) : (a.fdiv b).natAbs ≤ a.natAbs := by
  have pos : ∀ {a b : Int}, 0 < b → (a.fdiv b).natAbs ≤ a.natAbs := by
    intro a b hb
    obtain ⟨e, h1, h2⟩ := fd_pos (a := a) hb
    generalize a.fdiv b = q at *
    rcases Int.lt_or_le q 0 with hq | hq
    · have h3 : b * (q + 1) ≤ 1 * (q + 1) := Int.mul_le_mul_of_nonpos_right (by omega) (by omega)
      rw [Int.mul_add, Int.mul_one] at h3
      omega
    · have h3 : 1 * q ≤ b * q := Int.mul_le_mul_of_nonneg_right (by omega) hq
      omega
  rcases Int.lt_or_lt_of_ne h with hb | hb
  · have := pos (a := -a) (b := -b) (by omega)
    rw [Int.neg_fdiv_neg] at this
    omega
  · exact pos hb
theorem fmod_small {a b : Int} (h : b ≠ 0) : (a.fmod b).natAbs < b.natAbs := by
  rcases Int.lt_or_lt_of_ne h with hb | hb
  · have := fd_neg (a := a) hb; omega
  · have := fd_pos (a := a) hb; omega
/-- of the same sign -/
def SS (a b : Int) : Prop := (0 < a ∧ 0 < b) ∨ (a < 0 ∧ b < 0)
theorem ss_quo {a b : Int} (h : SS a b) : (a.fdiv b).natAbs = a.natAbs / b.natAbs ∧ (a.fmod b).natAbs = a.natAbs % b.natAbs := by
  have pos : ∀ {a b : Int}, 0 < a → 0 < b → (a.fdiv b).natAbs = a.natAbs / b.natAbs ∧ (a.fmod b).natAbs = a.natAbs % b.natAbs := by
    intro a b ha hb
    obtain ⟨x, rfl⟩ : ∃ x : Nat, a = x := ⟨a.toNat, by omega⟩
    obtain ⟨y, rfl⟩ : ∃ y : Nat, b = y := ⟨b.toNat, by omega⟩
    rw [Int.fdiv_eq_ediv_of_nonneg _ (by omega), Int.fmod_eq_emod_of_nonneg _ (by omega)]
    constructor <;> norm_cast
  rcases h with ⟨h1, h2⟩ | ⟨h1, h2⟩
  · exact pos h1 h2
  · have := pos (a := -a) (b := -b) (by omega) (by omega)
    rw [Int.neg_fdiv_neg, Int.neg_fmod_neg] at this
    rw [Int.natAbs_neg, Int.natAbs_neg, Int.natAbs_neg] at this
    exact this
theorem fmod_ss {a b : Int} (h : b ≠ 0) (h0 : a.fmod b ≠ 0) : SS (a.fmod b) b := by
  rcases Int.lt_or_lt_of_ne h with hb | hb
  · have := fd_neg (a := a) hb; exact .inr ⟨by omega, hb⟩
  · have := fd_pos (a := a) hb; exact .inl ⟨by omega, hb⟩
/-! ### one row less another -/
theorem lessL_at {r o : Row} {f : Int} (h : r.length = o.length) (i : Nat) : (lessL r f o).getD i 0 = r.getD i 0 - f * o.getD i 0 := by
  by_cases hi : i < r.length
  · have hi2 : i < o.length := by omega
    have h3 : i < (lessL r f o).length := by rw [lessL_length h]; exact hi
    rw [List.getD_eq_getElem?_getD, List.getElem?_eq_getElem h3]
    simp [lessL, hi, hi2]
  · have h1 : r.getD i 0 = 0 := by simp [Nat.not_lt.mp hi]
    have h2 : o.getD i 0 = 0 := by simp [show o.length ≤ i by omega]
    have h3 : (lessL r f o).getD i 0 = 0 := by
      have : (lessL r f o).length ≤ i := by rw [lessL_length h]; omega
      simp [this]
    rw [h1, h2, h3]
    simp
theorem red_at {r o : Row} {p : Nat} (h : r.length = o.length) (i : Nat) : (red r o p).getD i 0 = r.getD i 0 - quo r o p * o.getD i 0 := lessL_at h i
theorem red_p {r o : Row} {p : Nat} (h : r.length = o.length) : (red r o p).getD p 0 = (r.getD p 0).fmod (o.getD p 0) := by
  rw [red_at h, quo, Int.fmod_def, Int.mul_comm]
theorem red_mem {L : List Row} {r o : Row} {p : Nat} (h : r.length = o.length) (h1 : Sp L (V r)) (h2 : Sp L (V o)) : Sp L (V (red r o p)) :=
  (h1.addv (h2.smul (-(quo r o p)))).of fun i => by simp only [V]; rw [red_at h, Int.neg_mul]; omega
theorem red_back {L : List Row} {r o : Row} {p : Nat} (h : r.length = o.length) (h1 : Sp L (V (red r o p))) (h2 : Sp L (V o)) : Sp L (V r) :=
  (h1.addv (h2.smul (quo r o p))).of fun i => by simp only [V]; rw [red_at h]; omega
theorem getD_bd {r : Row} {T : Nat} (h : ∀ x ∈ r, x.natAbs ≤ T) (i : Nat) : (r.getD i 0).natAbs ≤ T := by
  by_cases hi : i < r.length
  · rw [List.getD_eq_getElem?_getD, List.getElem?_eq_getElem hi]
    exact h _ (List.getElem_mem hi)
  · simp [Nat.not_lt.mp hi]
theorem mem_getD {r : Row} {x : Int} (h : x ∈ r) : ∃ i, i < r.length ∧ r.getD i 0 = x := by
  obtain ⟨i, hi, e⟩ := List.getElem_of_mem h
  exact ⟨i, hi, by simp [hi, e]⟩
theorem sub_mul_bd {x q y : Int} {S Q T : Nat} (h1 : x.natAbs ≤ S) (h2 : q.natAbs ≤ Q) (h3 : y.natAbs ≤ T) : (x - q * y).natAbs ≤ S + Q * T := by
  have h4 : (q * y).natAbs ≤ Q * T := by rw [Int.natAbs_mul]; exact Nat.mul_le_mul h2 h3
  omega
theorem red_bd {r o : Row} {p : Nat} {S T Q : Nat} (h : r.length = o.length) (h1 : ∀ x ∈ r, x.natAbs ≤ S) (h2 : ∀ x ∈ o, x.natAbs ≤ T) (h3 : (quo r o p).natAbs ≤ Q) : ∀ x ∈ red r o p, x.natAbs ≤ S + Q * T := by
  intro x hx
  obtain ⟨i, _, rfl⟩ := mem_getD hx
  rw [red_at h]
  exact sub_mul_bd (getD_bd h1 i) h3 (getD_bd h2 i)
theorem pow_mono {a b : Nat} (h : a ≤ b) : (2 : Nat) ^ a ≤ 2 ^ b := Nat.pow_le_pow_right (by decide) h
theorem redOk_of {r o : Row} {p : Nat} {a c : Nat} (h0 : o.getD p 0 ≠ 0) (h1 : (o.getD p 0).natAbs < 2 ^ 9000) (h2 : (r.getD p 0).natAbs < 2 ^ a) (h3 : ∀ x ∈ o, x.natAbs < 2 ^ c) (ha : 0 < a) (hc : 0 < c) (hs : a + c ≤ 1000000) : redOk r o p :=
  ⟨⟨h0, PySem.Flt.log2_lt_of (by decide) h1⟩, fun x hx => (wide_mul (Nat.lt_of_le_of_lt (quo_le h0) h2) (h3 x hx) ha hc hs).ok⟩
end K86
namespace K86
open L2 WL
/-! ### the rounds of divided_down -/
def kap (p : Nat) (r : Row) : Nat := (r.getD p 0).natAbs
theorem keyAt_kap (p : Nat) (r : Row) : keyAt p r = (kap p r : Int) := by unfold keyAt kap; split <;> omega
def Ent (T : Nat) (L : List Row) : Prop := ∀ r ∈ L, ∀ x ∈ r, x.natAbs ≤ T
structure DI (n p b : Nat) (rows : List Row) (m : Nat) (live rest : List Row) : Prop where
  row : ∀ r, (r ∈ live ∨ r ∈ rest) → r.length = n ∧ ∀ j, j < p → r.getD j 0 = 0
  rz : ∀ r ∈ rest, r.getD p 0 = 0
  nz : ∀ r ∈ live, r.getD p 0 ≠ 0
  sp : SpEq (live ++ rest) rows
  len : live.length + rest.length ≤ rows.length
  ms : m = (live.map (kap p)).sum
  bd : ∃ T, Ent T live ∧ Ent T rest ∧ T ≤ 6 * 2 ^ b * 2 ^ b * 2 ^ b ∧
    ((T ≤ 2 ^ b ∧ ∀ r ∈ live, kap p r ≤ 2 ^ b) ∨
      ∃ a c first others, live = first :: others ∧ kap p first = a ∧ 0 < a ∧ a ≤ 2 ^ b ∧ a ≤ c ∧ (∀ o ∈ others, kap p o < a ∧ a + kap p o ≤ c) ∧ T * a * c ≤ 6 * 2 ^ b * 2 ^ b * 2 ^ b ∧ ∀ x ∈ live, ∀ y ∈ live, SS (x.getD p 0) (y.getD p 0))
theorem sum_le_of {α : Type} {f g : α → Nat} : ∀ {l : List α}, (∀ a ∈ l, f a ≤ g a) → (l.map f).sum ≤ (l.map g).sum
  | [], _ => Nat.le_refl _
  | a :: l, h => by
    have h1 := h a (List.mem_cons_self ..)
    have h2 := sum_le_of (l := l) fun b hb => h b (List.mem_cons_of_mem _ hb)
    simp only [List.map_cons, List.sum_cons]
    omega
theorem sum_filter_le {α : Type} {f : α → Nat} {q : α → Bool} : ∀ {l : List α}, ((l.filter q).map f).sum ≤ (l.map f).sum
  | [] => Nat.le_refl _
  | a :: l => by
    have ih := sum_filter_le (f := f) (q := q) (l := l)
    rw [List.filter_cons]
    split
    · simp only [List.map_cons, List.sum_cons]; omega
    · simp only [List.map_cons, List.sum_cons]; omega
theorem filter_two (p : Nat) (l : List Row) : (nzR p l).length + (zrR p l).length = l.length := by
  induction l with
  | nil => rfl
  | cons a l ih =>
    unfold nzR zrR at *
    rw [List.filter_cons, List.filter_cons]
    by_cases h : a.getD p 0 = 0
    · rw [if_neg (by simpa using h), if_pos (by simpa using h)]
      simp only [List.length_cons]
      omega
    · rw [if_pos (by simpa using h), if_neg (by simpa using h)]
      simp only [List.length_cons]
      omega
theorem perm_sum {l m : List Nat} (h : l.Perm m) : l.sum = m.sum := by
  induction h with
  | nil => rfl
  | cons x _ ih => simp only [List.sum_cons, ih]
  | swap x y l => simp only [List.sum_cons]; omega
  | trans _ _ h1 h2 => exact h1.trans h2
theorem mem_nz {p : Nat} {l : List Row} {r : Row} : r ∈ nzR p l ↔ r ∈ l ∧ r.getD p 0 ≠ 0 := by unfold nzR; rw [List.mem_filter]; simp
theorem mem_zr {p : Nat} {l : List Row} {r : Row} : r ∈ zrR p l ↔ r ∈ l ∧ r.getD p 0 = 0 := by unfold zrR; rw [List.mem_filter]; simp
theorem mem_two {p : Nat} {l : List Row} {r : Row} (h : r ∈ l) : r ∈ nzR p l ∨ r ∈ zrR p l := by
  by_cases h0 : r.getD p 0 = 0
  · exact .inr (mem_zr.mpr ⟨h, h0⟩)
  · exact .inl (mem_nz.mpr ⟨h, h0⟩)
theorem pot1 {T0 A a : Nat} (h0 : 0 < a) (h : a ≤ A) : T0 * (1 + 2 * A / a) * a * (2 * a) ≤ 6 * T0 * A * A := by
  have h1 : (1 + 2 * A / a) * a ≤ 3 * A := by
    rw [Nat.add_mul]
    have := Nat.div_mul_le_self (2 * A) a
    omega
  have h2 : 2 * a ≤ 2 * A := by omega
  have h3 := Nat.mul_le_mul (Nat.mul_le_mul_left T0 h1) h2
  have e1 : T0 * (1 + 2 * A / a) * a = T0 * ((1 + 2 * A / a) * a) := Nat.mul_assoc _ _ _
  have e2 : T0 * (3 * A) * (2 * A) = 6 * T0 * A * A := by
    rw [show (6 : Nat) = 3 * 2 by rfl]
    ac_rfl
  rw [e1, ← e2]
  exact h3
theorem pot2 {T a a' c : Nat} (h : a' + a ≤ c) : T * (1 + a / a') * a' * a ≤ T * a * c := by
  have h1 : (1 + a / a') * a' ≤ c := by
    rw [Nat.add_mul]
    have := Nat.div_mul_le_self a a'
    omega
  have h3 := Nat.mul_le_mul_right a (Nat.mul_le_mul_left T h1)
  have e1 : T * (1 + a / a') * a' = T * ((1 + a / a') * a') := Nat.mul_assoc _ _ _
  have e2 : T * c * a = T * a * c := by ac_rfl
  rw [e1, ← e2]
  exact h3
theorem z_pow (b : Nat) : 6 * 2 ^ b * 2 ^ b * 2 ^ b < 2 ^ (3 * b + 3) := by
  have e : (2 : Nat) ^ (3 * b + 3) = 8 * (2 ^ b * 2 ^ b * 2 ^ b) := by
    rw [show 3 * b + 3 = 3 + (b + b + b) by omega, Nat.pow_add, Nat.pow_add, Nat.pow_add]
  have e2 : 6 * 2 ^ b * 2 ^ b * 2 ^ b = 6 * (2 ^ b * 2 ^ b * 2 ^ b) := by ac_rfl
  have : 0 < 2 ^ b * 2 ^ b * 2 ^ b := Nat.mul_pos (Nat.mul_pos (Nat.pow_pos (by decide)) (Nat.pow_pos (by decide))) (Nat.pow_pos (by decide))
  rw [e, e2]
  omega
theorem le_ta {T a c Z : Nat} (ha : 0 < a) (hc : 0 < c) (h : T * a * c ≤ Z) : T ≤ Z := by
  have h1 : T * 1 ≤ T * a := Nat.mul_le_mul_left T ha
  have h2 : T * a * 1 ≤ T * a * c := Nat.mul_le_mul_left _ hc
  omega
theorem di_start {n p b : Nat} {rows : List Row} (h1 : ∀ r ∈ rows, r.length = n ∧ (∀ j, j < p → r.getD j 0 = 0) ∧ ∀ x ∈ r, x.natAbs < 2 ^ b) : ∃ m, DI n p b rows m (nzR p rows) (zrR p rows) := by
  refine ⟨_, ⟨fun r hr => ?_, fun r hr => (mem_zr.mp hr).2, fun r hr => (mem_nz.mp hr).2, SpEq.of (fun r hr => ?_) (fun r hr => ?_), by rw [filter_two]; exact Nat.le_refl _, rfl, 2 ^ b, fun r hr x hx => ?_, fun r hr x hx => ?_, ?_, .inl ⟨Nat.le_refl _, fun r hr => ?_⟩⟩⟩
  · have hm : r ∈ rows := by
      rcases hr with h | h
      · exact (mem_nz.mp h).1
      · exact (mem_zr.mp h).1
    exact ⟨(h1 r hm).1, (h1 r hm).2.1⟩
  · rcases List.mem_append.mp hr with h | h
    · exact Sp.mem (mem_nz.mp h).1
    · exact Sp.mem (mem_zr.mp h).1
  · rcases mem_two (p := p) hr with h | h
    · exact Sp.mem (List.mem_append_left _ h)
    · exact Sp.mem (List.mem_append_right _ h)
  · exact Nat.le_of_lt ((h1 r (mem_nz.mp hr).1).2.2 x hx)
  · exact Nat.le_of_lt ((h1 r (mem_zr.mp hr).1).2.2 x hx)
  · have h1 : 1 ≤ 2 ^ b := Nat.pow_pos (by decide)
    have h2 : 2 ^ b * 1 ≤ 2 ^ b * 2 ^ b := Nat.mul_le_mul_left _ h1
    have h3 : 2 ^ b * 2 ^ b * 1 ≤ 2 ^ b * 2 ^ b * 2 ^ b := Nat.mul_le_mul_left _ h1
    have e2 : 6 * 2 ^ b * 2 ^ b * 2 ^ b = 6 * (2 ^ b * 2 ^ b * 2 ^ b) := by ac_rfl
    rw [e2]
    omega
  · exact getD_bd (fun x hx => Nat.le_of_lt ((h1 r (mem_nz.mp hr).1).2.2 x hx)) p
/-- the state behind a round, from bounds -/
theorem di_step {n p b : Nat} (hb : b ≤ 4000) {rows live rest : List Row} {m : Nat} (h : DI n p b rows m live rest) (hl : 1 < live.length) {srt : List Row} {o : Row} {tl : List Row} (hp : srt.Perm live)
    (hs : srt.Pairwise fun a c => keyAt p a ≤ keyAt p c) (he : srt = o :: tl) :
    (∀ r ∈ tl, redOk r o p) ∧ ∃ m', m' < m ∧ DI n p b rows m' (o :: nzR p (tl.map fun r => red r o p)) (rest ++ zrR p (tl.map fun r => red r o p)) := by
  subst he
  have ho : o ∈ live := hp.mem_iff.mp (List.mem_cons_self ..)
  have htl : ∀ r ∈ tl, r ∈ live := fun r hr => hp.mem_iff.mp (List.mem_cons_of_mem _ hr)
  have hmin : ∀ r ∈ live, kap p o ≤ kap p r := fun r hr => by
    rcases List.mem_cons.mp (hp.mem_iff.mpr hr) with e | e
    · rw [e]; exact Nat.le_refl _
    · have := (List.pairwise_cons.mp hs).1 r e
      rw [keyAt_kap, keyAt_kap] at this
      omega
  have htl0 : tl ≠ [] := fun e => by
    have := hp.length_eq
    rw [e] at this
    simp at this
    omega
  have ol : o.length = n := (h.row o (.inl ho)).1
  have rl : ∀ r ∈ tl, r.length = o.length := fun r hr => by rw [ol]; exact (h.row r (.inl (htl r hr))).1
  have o0 : o.getD p 0 ≠ 0 := h.nz o ho
  have hz := z_pow b
  obtain ⟨T, e1, e2, e3, e4⟩ := h.bd
  have kb : ∀ r ∈ live, kap p r ≤ 2 ^ b := fun r hr => by
    rcases e4 with ⟨_, q⟩ | ⟨a, c, first, others, q1, q2, q3, q4, q5, q6, q7, q8⟩
    · exact q r hr
    · rw [q1] at hr
      rcases List.mem_cons.mp hr with e | e
      · rw [e, q2]; exact q4
      · have := (q6 r e).1; omega
  have hk : ∀ r ∈ tl, kap p (red r o p) < kap p o := fun r hr => by
    show ((red r o p).getD p 0).natAbs < _
    rw [red_p (rl r hr)]
    exact fmod_small o0
  have memR : ∀ r, r ∈ nzR p (tl.map fun r => red r o p) ∨ r ∈ zrR p (tl.map fun r => red r o p) → ∃ x ∈ tl, r = red x o p := fun r hr => by
    have : r ∈ tl.map fun r => red r o p := by
      rcases hr with q | q
      · exact (mem_nz.mp q).1
      · exact (mem_zr.mp q).1
    obtain ⟨x, hx, e⟩ := List.mem_map.mp this
    exact ⟨x, hx, e.symm⟩
  have spO : Sp (o :: nzR p (tl.map fun r => red r o p) ++ (rest ++ zrR p (tl.map fun r => red r o p))) (V o) := Sp.mem (List.mem_append_left _ (List.mem_cons_self ..))
  refine ⟨fun r hr => redOk_of (a := b + 1) (c := 3 * b + 3) o0 ?_ ?_ (fun x hx => ?_) (by omega) (by omega) (by omega), ((o :: nzR p (tl.map fun r => red r o p)).map (kap p)).sum, ?_, ⟨fun r hr => ?_, fun r hr => ?_, fun r hr => ?_, SpEq.trans (SpEq.of (fun r hr => ?_) (fun r hr => ?_)) h.sp, ?_, rfl, ?_⟩⟩
  · exact Nat.lt_of_le_of_lt (kb o ho) (Nat.lt_of_lt_of_le (Nat.pow_lt_pow_right (by decide) (show b < b + 1 by omega)) (pow_mono (by omega)))
  · exact Nat.lt_of_le_of_lt (kb r (htl r hr)) (Nat.pow_lt_pow_right (by decide) (show b < b + 1 by omega))
  · have := e1 o ho x hx; omega
  · -- the measure
    rw [h.ms, ← perm_sum (hp.map (kap p)), List.map_cons, List.map_cons, List.sum_cons, List.sum_cons]
    have g1 : ((nzR p (tl.map fun r => red r o p)).map (kap p)).sum ≤ ((tl.map fun r => red r o p).map (kap p)).sum := sum_filter_le
    rw [List.map_map] at g1
    cases tl with
    | nil => exact absurd rfl htl0
    | cons t ts =>
      have g2 := hk t (List.mem_cons_self ..)
      have g3 := hmin t (htl t (List.mem_cons_self ..))
      have g4 : (ts.map (kap p ∘ fun r => red r o p)).sum ≤ (ts.map (kap p)).sum := sum_le_of fun r hr => by
        have a1 := hk r (List.mem_cons_of_mem _ hr)
        have a2 := hmin r (htl r (List.mem_cons_of_mem _ hr))
        show kap p (red r o p) ≤ _
        omega
      simp only [List.map_cons, List.sum_cons, Function.comp] at g1 ⊢ g4
      omega
  · -- rows
    have nw : ∀ x ∈ tl, (red x o p).length = n ∧ ∀ j, j < p → (red x o p).getD j 0 = 0 := fun x hx => ⟨by rw [red_length (rl x hx), rl x hx, ol], fun j hj => by
      rw [red_at (rl x hx), (h.row x (.inl (htl x hx))).2 j hj, (h.row o (.inl ho)).2 j hj]; simp⟩
    rcases hr with hr | hr
    · rcases List.mem_cons.mp hr with e | e
      · rw [e]; exact h.row o (.inl ho)
      · obtain ⟨x, hx, rfl⟩ := memR r (.inl e)
        exact nw x hx
    · rcases List.mem_append.mp hr with e | e
      · exact h.row r (.inr e)
      · obtain ⟨x, hx, rfl⟩ := memR r (.inr e)
        exact nw x hx
  · rcases List.mem_append.mp hr with e | e
    · exact h.rz r e
    · exact (mem_zr.mp e).2
  · rcases List.mem_cons.mp hr with e | e
    · rw [e]; exact o0
    · exact (mem_nz.mp e).2
  · -- the span
    have so : Sp (live ++ rest) (V o) := Sp.mem (List.mem_append_left _ ho)
    rcases List.mem_append.mp hr with hr | hr
    · rcases List.mem_cons.mp hr with e | e
      · rw [e]; exact so
      · obtain ⟨x, hx, rfl⟩ := memR r (.inl e)
        exact red_mem (rl x hx) (Sp.mem (List.mem_append_left _ (htl x hx))) so
    · rcases List.mem_append.mp hr with e | e
      · exact Sp.mem (List.mem_append_right _ e)
      · obtain ⟨x, hx, rfl⟩ := memR r (.inr e)
        exact red_mem (rl x hx) (Sp.mem (List.mem_append_left _ (htl x hx))) so
  · rcases List.mem_append.mp hr with hr | hr
    · rcases List.mem_cons.mp (hp.mem_iff.mpr hr) with e | e
      · rw [e]; exact spO
      · refine red_back (p := p) (rl r e) ?_ spO
        rcases mem_two (p := p) (List.mem_map.mpr ⟨r, e, rfl⟩ : red r o p ∈ tl.map fun r => red r o p) with q | q
        · exact Sp.mem (List.mem_append_left _ (List.mem_cons_of_mem _ q))
        · exact Sp.mem (List.mem_append_right _ (List.mem_append_right _ q))
    · exact Sp.mem (List.mem_append_right _ (List.mem_append_left _ hr))
  · have g1 := filter_two p (tl.map fun r => red r o p)
    have g2 := hp.length_eq
    have g3 := h.len
    simp only [List.length_cons, List.length_append, List.length_map] at g1 g2 ⊢
    omega
  · -- the bounds
    have ha0 : 0 < kap p o := by unfold kap; omega
    have grow : ∀ Q : Nat, (∀ r ∈ tl, (quo r o p).natAbs ≤ Q) → Ent (T * (1 + Q)) (o :: nzR p (tl.map fun r => red r o p)) ∧ Ent (T * (1 + Q)) (rest ++ zrR p (tl.map fun r => red r o p)) := by
      intro Q hQ
      have up : T ≤ T * (1 + Q) := by
        have := Nat.mul_le_mul_left T (show 1 ≤ 1 + Q by omega)
        omega
      have nw : ∀ x ∈ tl, ∀ y ∈ red x o p, y.natAbs ≤ T * (1 + Q) := fun x hx y hy => by
        have := red_bd (rl x hx) (e1 x (htl x hx)) (e1 o ho) (hQ x hx) y hy
        have e : T * (1 + Q) = T + Q * T := by rw [Nat.mul_add, Nat.mul_one, Nat.mul_comm T Q]
        omega
      refine ⟨fun r hr => ?_, fun r hr => ?_⟩
      · rcases List.mem_cons.mp hr with e | e
        · rw [e]; exact fun x hx => Nat.le_trans (e1 o ho x hx) up
        · obtain ⟨x, hx, rfl⟩ := memR r (.inl e)
          exact nw x hx
      · rcases List.mem_append.mp hr with e | e
        · exact fun x hx => Nat.le_trans (e2 r e x hx) up
        · obtain ⟨x, hx, rfl⟩ := memR r (.inr e)
          exact nw x hx
    have ssN : ∀ x ∈ o :: nzR p (tl.map fun r => red r o p), SS (x.getD p 0) (o.getD p 0) := fun x hx => by
      rcases List.mem_cons.mp hx with e | e
      · rw [e]
        rcases Int.lt_or_lt_of_ne o0 with q | q
        · exact .inr ⟨q, q⟩
        · exact .inl ⟨q, q⟩
      · have hn := (mem_nz.mp e).2
        obtain ⟨y, hy, rfl⟩ := memR x (.inl e)
        rw [red_p (rl y hy)] at hn ⊢
        exact fmod_ss o0 hn
    have ssAll : ∀ x ∈ o :: nzR p (tl.map fun r => red r o p), ∀ y ∈ o :: nzR p (tl.map fun r => red r o p), SS (x.getD p 0) (y.getD p 0) := fun x hx y hy => by
      have g1 := ssN x hx
      have g2 := ssN y hy
      unfold SS at *
      omega
    rcases e4 with ⟨q1, q2⟩ | ⟨a, c, first, others, q1, q2, q3, q4, q5, q6, q7, q8⟩
    · -- the first round
      have hA := kb o ho
      obtain ⟨g1, g2⟩ := grow (2 * 2 ^ b / kap p o) fun r hr => by
        rw [Nat.le_div_iff_mul_le ha0]
        have g3 := quo_mul (a := r.getD p 0) o0
        have g4 := kb r (htl r hr)
        have g5 := kb o ho
        unfold quo
        unfold kap at *
        omega
      have g6 := pot1 (T0 := 2 ^ b) ha0 hA
      have g7 : T * (1 + 2 * 2 ^ b / kap p o) * kap p o * (2 * kap p o) ≤ 6 * 2 ^ b * 2 ^ b * 2 ^ b :=
        Nat.le_trans (Nat.mul_le_mul_right _ (Nat.mul_le_mul_right _ (Nat.mul_le_mul_right _ q1))) g6
      refine ⟨_, g1, g2, le_ta ha0 (show 0 < 2 * kap p o by omega) g7, .inr ⟨kap p o, 2 * kap p o, o, _, rfl, rfl, ha0, hA, by omega, fun x hx => ?_, g7, ssAll⟩⟩
      obtain ⟨y, hy, rfl⟩ := memR x (.inl hx)
      have := hk y hy
      omega
    · -- a later round
      have hoo : o ∈ others := by
        rw [q1] at ho
        rcases List.mem_cons.mp ho with e | e
        · cases others with
          | nil => rw [q1] at hl; simp at hl
          | cons x xs =>
            have g1 := (q6 x (List.mem_cons_self ..)).1
            have g2 := hmin x (by rw [q1]; exact List.mem_cons_of_mem _ (List.mem_cons_self ..))
            rw [e] at g2
            omega
        · exact e
      obtain ⟨oa, oc⟩ := q6 o hoo
      have ka : ∀ r ∈ live, kap p r ≤ a := fun r hr => by
        rw [q1] at hr
        rcases List.mem_cons.mp hr with e | e
        · rw [e, q2]; exact Nat.le_refl _
        · exact Nat.le_of_lt (q6 r e).1
      obtain ⟨g1, g2⟩ := grow (a / kap p o) fun r hr => by
        have g3 := (ss_quo (q8 r (htl r hr) o ho)).1
        have g4 := ka r (htl r hr)
        unfold quo
        rw [g3]
        exact Nat.div_le_div_right g4
      have g6 := Nat.le_trans (pot2 (T := T) (a' := kap p o) (show kap p o + a ≤ c by omega)) q7
      refine ⟨_, g1, g2, le_ta ha0 q3 g6, .inr ⟨kap p o, a, o, _, rfl, rfl, ha0, kb o ho, by omega, fun x hx => ?_, g6, ssAll⟩⟩
      obtain ⟨y, hy, rfl⟩ := memR x (.inl hx)
      refine ⟨hk y hy, ?_⟩
      have g7 : kap p (red y o p) = kap p y % kap p o := by
        show ((red y o p).getD p 0).natAbs = _
        rw [red_p (rl y hy)]
        exact (ss_quo (q8 y (htl y hy) o ho)).2
      rw [g7]
      have g8 := hmin y (htl y hy)
      have g9 := ka y (htl y hy)
      have g10 := Nat.div_add_mod (kap p y) (kap p o)
      have g11 : 1 ≤ kap p y / kap p o := (Nat.one_le_div_iff ha0).mpr g8
      have g12 := Nat.mul_le_mul_left (kap p o) g11
      omega
theorem dd_inv {n p b : Nat} (hb : b ≤ 4000) {rows : List Row} (hl : rows.length ≤ 1000) : DDInv n p (fun m live rest => DI n p b rows m live rest) where
  len := fun m live rest h => ⟨fun r hr => (h.row r (.inl hr)).1, by have := h.len; omega, by have := h.len; omega⟩
  step := fun m live rest h hlv srt o tl h1 h2 h3 => di_step hb h hlv h1 h2 h3
end K86
namespace K86
open L2 WL
def bbs (s : Nat) : Nat → Nat
  | 0 => s
  | p + 1 => 3 * bbs s p + 3
def ffs (s : Nat) : Nat → Nat
  | 0 => 0
  | p + 1 => ffs s p + bbs s (p + 1) + 1
theorem SpEq.app {F L L' : List Row} (h : SpEq L L') : SpEq (F ++ L) (F ++ L') := by
  refine SpEq.of (fun r hr => ?_) (fun r hr => ?_)
  · rcases List.mem_append.mp hr with e | e
    · exact Sp.mem (List.mem_append_left _ e)
    · exact (h.sp e).mono fun x hx => List.mem_append_right _ hx
  · rcases List.mem_append.mp hr with e | e
    · exact Sp.mem (List.mem_append_left _ e)
    · exact (h.symm.sp e).mono fun x hx => List.mem_append_right _ hx
theorem SpEq.zeros {F L : List Row} (h : ∀ r ∈ L, ∀ i, r.getD i 0 = 0) : SpEq (F ++ L) F := by
  refine SpEq.of (fun r hr => ?_) (fun r hr => Sp.mem (List.mem_append_left _ hr))
  rcases List.mem_append.mp hr with e | e
  · exact Sp.mem e
  · exact Sp.zero.of fun i => (h r e i).symm
/-- what holds of a found row at the column p -/
structure FR (n p f : Nat) (b : Row) : Prop where
  pvl : pv b < p
  piv : (b.getD (pv b) 0).natAbs < 2 ^ 9000
  bd : ∀ x ∈ b, x.natAbs < 2 ^ f
structure OwnR (n p b : Nat) (own : Row) : Prop where
  len : own.length = n
  zb : ∀ j, j < p → own.getD j 0 = 0
  pos : 0 < own.getD p 0
  piv : (own.getD p 0).natAbs < 2 ^ 9000
  bd : ∀ x ∈ own, x.natAbs < 2 ^ b
theorem OwnR.pv {n p b : Nat} {own : Row} (h : OwnR n p b own) (hp : p < n) : pv own = p := pv_at (by rw [h.len]; exact hp) h.zb (by have := h.pos; omega)
theorem red_keep {n p f b : Nat} {r own : Row} (hr : r.length = n) (hf : pv r < p) (ho : OwnR n p b own) {j : Nat} (hj : j < p) : (red r own p).getD j 0 = r.getD j 0 := by
  rw [red_at (by rw [hr, ho.len]), ho.zb j hj]
  simp
theorem red_pv {n p b : Nat} {r own : Row} (hr : r.length = n) (hn : pv r < n) (h0 : r.getD (pv r) 0 ≠ 0) (hf : pv r < p) (ho : OwnR n p b own) : pv (red r own p) = pv r := by
  refine pv_at (by rw [red_length (by rw [hr, ho.len]), hr]; exact hn) (fun j hj => ?_) ?_
  · rw [red_keep (f := 0) hr hf ho (by omega)]
    exact pv_before' hj
  · rw [red_keep (f := 0) hr hf ho hf]
    exact h0
theorem bd_grow {f b : Nat} (hb : 0 < b) : 2 ^ f + 2 ^ f * 2 ^ b < 2 ^ (f + b + 1) := by
  have e : 2 ^ (f + b + 1) = 2 ^ f * (2 ^ b * 2) := by rw [Nat.pow_add, Nat.pow_add, Nat.pow_one, Nat.mul_assoc]
  have h2 : 2 ≤ 2 ^ b := by
    have := pow_mono (a := 1) (b := b) hb
    simpa using this
  have e2 : 2 ^ f + 2 ^ f * 2 ^ b = 2 ^ f * (1 + 2 ^ b) := by rw [Nat.mul_add, Nat.mul_one]
  rw [e, e2]
  exact Nat.mul_lt_mul_of_pos_left (by omega) (Nat.pow_pos (by decide))
/-- a row joins the normal form -/
theorem hn_push {n p f b : Nat} {found : List Row} {own : Row} (hp : p < n) (hn : HN n found) (hf : ∀ r ∈ found, FR n p f r) (ho : OwnR n p b own) (hb : 0 < b) :
    HN n (found.map (fun r => red r own p) ++ [own]) ∧ (∀ r ∈ found.map (fun r => red r own p) ++ [own], FR n (p + 1) (f + b + 1) r) ∧ SpEq (found.map (fun r => red r own p) ++ [own]) (found ++ [own]) := by
  have rl : ∀ r ∈ found, r.length = own.length := fun r hr => by rw [(hn.row r hr).1, ho.len]
  have pvr : ∀ r ∈ found, pv (red r own p) = pv r := fun r hr => red_pv (hn.row r hr).1 (hn.row r hr).2.1 (by have := (hn.row r hr).2.2; omega) (hf r hr).pvl ho
  have keep : ∀ r ∈ found, ∀ j, j < p → (red r own p).getD j 0 = r.getD j 0 := fun r hr j hj => red_keep (f := 0) (hn.row r hr).1 (hf r hr).pvl ho hj
  have opv := ho.pv hp
  have o0 : own.getD p 0 ≠ 0 := by have := ho.pos; omega
  refine ⟨⟨fun r hr => ?_, ?_⟩, fun r hr => ?_, SpEq.of (fun r hr => ?_) (fun r hr => ?_)⟩
  · rcases List.mem_append.mp hr with e | e
    · obtain ⟨x, hx, rfl⟩ := List.mem_map.mp e
      obtain ⟨h1, h2, h3⟩ := hn.row x hx
      refine ⟨by rw [red_length (rl x hx)]; exact h1, by rw [pvr x hx]; exact h2, ?_⟩
      rw [pvr x hx, keep x hx _ (hf x hx).pvl]
      exact h3
    · rw [List.mem_singleton.mp e, opv]
      exact ⟨ho.len, hp, ho.pos⟩
  · rw [List.pairwise_append]
    refine ⟨?_, List.pairwise_singleton _ _, fun x hx y hy => ?_⟩
    · rw [List.pairwise_map]
      refine hn.pw.imp_of_mem fun {x y} hx hy h => ?_
      rw [pvr x hx, pvr y hy, keep x hx _ (hf y hy).pvl, keep y hy _ (hf y hy).pvl]
      exact h
    · obtain ⟨z, hz, rfl⟩ := List.mem_map.mp hx
      rw [List.mem_singleton.mp hy, opv, pvr z hz, red_p (rl z hz)]
      have := fd_pos (a := z.getD p 0) ho.pos
      exact ⟨(hf z hz).pvl, this.2.1, this.2.2⟩
  · rcases List.mem_append.mp hr with e | e
    · obtain ⟨x, hx, rfl⟩ := List.mem_map.mp e
      refine ⟨by rw [pvr x hx]; have := (hf x hx).pvl; omega, by rw [pvr x hx, keep x hx _ (hf x hx).pvl]; exact (hf x hx).piv, fun y hy => ?_⟩
      have hq : (quo x own p).natAbs ≤ 2 ^ f := Nat.le_trans (quo_le o0) (getD_bd (fun z hz => Nat.le_of_lt ((hf x hx).bd z hz)) p)
      have := red_bd (rl x hx) (fun z hz => Nat.le_of_lt ((hf x hx).bd z hz)) (fun z hz => Nat.le_of_lt (ho.bd z hz)) hq y hy
      exact Nat.lt_of_le_of_lt this (bd_grow hb)
    · rw [List.mem_singleton.mp e]
      exact ⟨by rw [opv]; omega, by rw [opv]; exact ho.piv, fun y hy => Nat.lt_of_lt_of_le (ho.bd y hy) (pow_mono (by omega))⟩
  · have so : Sp (found ++ [own]) (V own) := Sp.mem (List.mem_append_right _ (List.mem_singleton.mpr rfl))
    rcases List.mem_append.mp hr with e | e
    · obtain ⟨x, hx, rfl⟩ := List.mem_map.mp e
      exact red_mem (rl x hx) (Sp.mem (List.mem_append_left _ hx)) so
    · rw [List.mem_singleton.mp e]; exact so
  · have so : Sp (found.map (fun r => red r own p) ++ [own]) (V own) := Sp.mem (List.mem_append_right _ (List.mem_singleton.mpr rfl))
    rcases List.mem_append.mp hr with e | e
    · exact red_back (p := p) (rl r e) (Sp.mem (List.mem_append_left _ (List.mem_map.mpr ⟨r, e, rfl⟩))) so
    · rw [List.mem_singleton.mp e]; exact so
theorem negL_at (r : Row) (i : Nat) : (negL r).getD i 0 = -(r.getD i 0) := by
  by_cases hi : i < r.length
  · simp [negL, hi]
  · simp [negL, Nat.not_lt.mp hi]
theorem ownOf_V {L : List Row} {o : Row} {p : Nat} : Sp L (V (ownOf o p)) ↔ Sp L (V o) := by
  unfold ownOf
  split
  · exact Iff.rfl
  · constructor
    · intro h
      exact (h.smul (-1)).of fun i => by simp only [V]; rw [negL_at]; omega
    · intro h
      exact (h.smul (-1)).of fun i => by simp only [V]; rw [negL_at]; omega
theorem ownOf_at {o : Row} {p : Nat} (i : Nat) : ((ownOf o p).getD i 0).natAbs = (o.getD i 0).natAbs := by
  unfold ownOf
  split
  · rfl
  · rw [negL_at, Int.natAbs_neg]
theorem ownOf_R {n p b : Nat} {o : Row} (h1 : o.length = n) (h2 : ∀ j, j < p → o.getD j 0 = 0) (h3 : o.getD p 0 ≠ 0) (h4 : (o.getD p 0).natAbs < 2 ^ 9000) (h5 : ∀ x ∈ o, x.natAbs < 2 ^ b) : OwnR n p b (ownOf o p) where
  len := by rw [ownOf_length]; exact h1
  zb := fun j hj => by have := ownOf_at (o := o) (p := p) j; rw [h2 j hj] at this; omega
  pos := by
    unfold ownOf
    split
    · assumption
    · rw [negL_at]; omega
  piv := by rw [ownOf_at]; exact h4
  bd := fun x hx => by
    obtain ⟨i, hi, rfl⟩ := mem_getD hx
    rw [ownOf_at]
    have hi : i < o.length := by rw [ownOf_length] at hi; exact hi
    refine h5 _ ?_
    rw [List.getD_eq_getElem?_getD, List.getElem?_eq_getElem hi]
    exact List.getElem_mem hi
/-- what echelon keeps -/
structure JI (n s : Nat) (rows0 : List Row) (p : Nat) (found rows : List Row) : Prop where
  row : ∀ r ∈ rows, r.length = n ∧ (∀ j, j < p → r.getD j 0 = 0) ∧ ∀ x ∈ r, x.natAbs < 2 ^ bbs s p
  hn : HN n found
  fr : ∀ r ∈ found, FR n p (ffs s p) r
  sp : SpEq (found ++ rows) rows0
  l1 : found.length ≤ p
  l2 : rows.length ≤ 1000
theorem ech_inv {n s : Nat} {rows0 : List Row} (hb : ∀ p, p < n → bbs s p ≤ 4000) (hf : ∀ p, p < n → ffs s p + 3 * bbs s p + 4 ≤ 1000000) : EchInv n (JI n s rows0) where
  len := fun p found rows h => ⟨fun r hr => (h.row r hr).1, fun r hr => (h.hn.row r hr).1, h.l2, h.l1⟩
  dd := fun p found rows hp h => by
    refine ⟨_, dd_inv (hb p hp) h.l2, di_start h.row, fun m live rest hI hlv => ?_⟩
    have hz := z_pow (bbs s p)
    obtain ⟨T, e1, e2, e3, e4⟩ := hI.bd
    have rest_ok : ∀ r ∈ rest, r.length = n ∧ (∀ j, j < p + 1 → r.getD j 0 = 0) ∧ ∀ x ∈ r, x.natAbs < 2 ^ bbs s (p + 1) := fun r hr => by
      obtain ⟨g1, g2⟩ := hI.row r (.inr hr)
      refine ⟨g1, fun j hj => ?_, fun x hx => ?_⟩
      · by_cases hj2 : j < p
        · exact g2 j hj2
        · have : j = p := by omega
          subst this
          exact hI.rz r hr
      · have := e2 r hr x hx
        show x.natAbs < 2 ^ (3 * bbs s p + 3)
        omega
    have rl := hI.len
    have hl2 := h.l2
    have hl1 := h.l1
    refine ⟨fun hl => ?_, fun o hl => ?_⟩
    · subst hl
      refine ⟨rest_ok, h.hn, fun r hr => ?_, SpEq.trans (SpEq.app hI.sp) h.sp, by omega, by simp at rl; omega⟩
      have := h.fr r hr
      exact ⟨by have := this.pvl; omega, this.piv, fun x hx => Nat.lt_of_lt_of_le (this.bd x hx) (pow_mono (by simp [ffs]; omega))⟩
    · subst hl
      have ho := hI.row o (.inl (List.mem_cons_self ..))
      have o0 := hI.nz o (List.mem_cons_self ..)
      have kb : kap p o ≤ 2 ^ bbs s p := by
        rcases e4 with ⟨_, q⟩ | ⟨a, c, first, others, q1, q2, q3, q4, q5, q6, q7, q8⟩
        · exact q o (List.mem_cons_self ..)
        · cases q1
          omega
      have hbp := hb p hp
      have hown : OwnR n p (bbs s (p + 1)) (ownOf o p) := ownOf_R ho.1 ho.2 o0 (Nat.lt_of_le_of_lt kb (Nat.pow_lt_pow_right (by decide) (by omega))) fun x hx => by
        have := e1 o (List.mem_cons_self ..) x hx
        show x.natAbs < 2 ^ (3 * bbs s p + 3)
        omega
      obtain ⟨g1, g2, g3⟩ := hn_push hp h.hn h.fr hown (show 0 < bbs s (p + 1) by simp [bbs])
      refine ⟨fun r hr => ?_, ⟨rest_ok, g1, g2, ?_, by simp; omega, by simp at rl; omega⟩⟩
      · have hfp := hf p hp
        refine redOk_of (a := ffs s p + 1) (c := bbs s (p + 1)) (by have := hown.pos; omega) hown.piv ?_ hown.bd (by omega) (by simp [bbs]) (by simp only [bbs]; omega)
        exact Nat.lt_of_le_of_lt (getD_bd (fun z hz => Nat.le_of_lt ((h.fr r hr).bd z hz)) p) (Nat.pow_lt_pow_right (by decide) (by omega))
      · refine SpEq.trans (SpEq.of (fun r hr => ?_) (fun r hr => ?_)) h.sp
        · have so : Sp (found ++ rows) (V (ownOf o p)) := ownOf_V.mpr ((hI.sp.sp (List.mem_append_left _ (List.mem_cons_self ..))).mono fun x hx => List.mem_append_right _ hx)
          rcases List.mem_append.mp hr with e | e
          · refine (g3.sp e).sub fun x hx => ?_
            rcases List.mem_append.mp hx with q | q
            · exact Sp.mem (List.mem_append_left _ q)
            · rw [List.mem_singleton.mp q]; exact so
          · exact (hI.sp.sp (List.mem_append_right _ e)).mono fun x hx => List.mem_append_right _ hx
        · have sub : ∀ x, x ∈ found ++ [ownOf o p] → Sp (found.map (fun r => red r (ownOf o p) p) ++ [ownOf o p] ++ rest) (V x) := fun x hx => (g3.symm.sp hx).mono fun y hy => List.mem_append_left _ hy
          rcases List.mem_append.mp hr with e | e
          · exact sub r (List.mem_append_left _ e)
          · refine (hI.sp.symm.sp e).sub fun x hx => ?_
            rcases List.mem_append.mp hx with q | q
            · rw [List.mem_singleton.mp q]
              exact ownOf_V.mp (sub _ (List.mem_append_right _ (List.mem_singleton.mpr rfl)))
            · exact Sp.mem (List.mem_append_right _ q)
theorem ji_start {n s : Nat} {rows : List Row} (h1 : ∀ r ∈ rows, r.length = n ∧ ∀ x ∈ r, x.natAbs < 2 ^ s) (h2 : rows.length ≤ 1000) : JI n s rows 0 [] rows :=
  ⟨fun r hr => ⟨(h1 r hr).1, fun j hj => absurd hj (by omega), (h1 r hr).2⟩, ⟨fun b hb => absurd hb (by simp), .nil⟩, fun r hr => absurd hr (by simp), SpEq.refl _, Nat.le_refl _, h2⟩
theorem ji_end {n s : Nat} {rows found rows' : List Row} (h : JI n s rows n found rows') : SpEq found rows := by
  refine SpEq.trans (SpEq.zeros (L := rows') fun r hr i => ?_).symm h.sp
  by_cases hi : i < n
  · exact (h.row r hr).2.1 i hi
  · simp [(h.row r hr).1, Nat.not_lt.mp hi]
end K86
namespace K86
open L2 WL
/-! ### the dict of rows -/
theorem hget_mem : ∀ {h : Held} {k : Nat} {r : Row}, hget h k = some r → (k, r) ∈ h
  | [], _, _, e => by simp [hget] at e
  | p :: h, k, r, e => by
    unfold hget at e
    rw [List.find?_cons] at e
    by_cases hk : p.1 = k
    · simp [hk] at e
      rw [← hk, ← e]
      exact List.mem_cons_self ..
    · simp only [hk, decide_false] at e
      exact List.mem_cons_of_mem _ (hget_mem e)
theorem hget_none : ∀ {h : Held} {k : Nat}, hget h k = none → ∀ p ∈ h, p.1 ≠ k
  | [], _, _ => by simp
  | q :: h, k, e => by
    unfold hget at e
    rw [List.find?_cons] at e
    by_cases hk : q.1 = k
    · simp [hk] at e
    · simp only [hk, decide_false] at e
      intro p hp
      rcases List.mem_cons.mp hp with z | z
      · rw [z]; exact hk
      · exact hget_none e p z
theorem hget_key {h : Held} {k : Nat} (hk : k ∈ h.map (·.1)) : ∃ r, hget h k = some r ∧ (k, r) ∈ h := by
  cases e : hget h k with
  | none =>
    obtain ⟨p, hp, e2⟩ := List.mem_map.mp hk
    exact absurd e2 (hget_none e p hp)
  | some r => exact ⟨r, rfl, hget_mem e⟩
theorem any_key {h : Held} {k : Nat} : h.any (fun p => decide (p.1 = k)) = true ↔ k ∈ h.map (·.1) := by
  rw [List.any_eq_true]
  constructor
  · rintro ⟨p, hp, e⟩
    exact List.mem_map.mpr ⟨p, hp, by simpa using e⟩
  · intro h
    obtain ⟨p, hp, e⟩ := List.mem_map.mp h
    exact ⟨p, hp, by simpa using e⟩
theorem mem_hput {h : Held} {k : Nat} {r : Row} {p : Nat × Row} : p ∈ hput h k r ↔ p = (k, r) ∨ (p ∈ h ∧ p.1 ≠ k) := by
  unfold hput
  split
  · rename_i ha
    rw [List.mem_map]
    constructor
    · rintro ⟨q, hq, e⟩
      by_cases hk : q.1 = k
      · rw [if_pos hk] at e
        left
        rw [← e, hk]
      · rw [if_neg hk] at e
        right
        rw [← e]
        exact ⟨hq, hk⟩
    · rintro (e | ⟨h1, h2⟩)
      · obtain ⟨q, hq, e2⟩ := List.mem_map.mp (any_key.mp ha)
        exact ⟨q, hq, by rw [if_pos e2, e, e2]⟩
      · exact ⟨p, h1, if_neg h2⟩
  · rename_i ha
    rw [List.mem_append, List.mem_singleton]
    constructor
    · rintro (h1 | h1)
      · refine .inr ⟨h1, fun e => ha (any_key.mpr (List.mem_map.mpr ⟨p, h1, e⟩))⟩
      · exact .inl h1
    · rintro (h1 | h1)
      · exact .inr h1
      · exact .inl h1.1
theorem keys_hput {h : Held} {k : Nat} {r : Row} (hn : (h.map (·.1)).Nodup) : ((hput h k r).map (·.1)).Nodup := by
  unfold hput
  split
  · have e : (h.map fun p => if p.1 = k then (p.1, r) else p).map (·.1) = h.map (·.1) := by
      rw [List.map_map]
      refine List.map_congr_left fun p _ => ?_
      simp only [Function.comp]
      split <;> rfl
    rw [e]
    exact hn
  · rename_i ha
    rw [List.map_append, List.nodup_append]
    refine ⟨hn, by simp, fun a h1 b h2 => ?_⟩
    have e : b = k := by simpa using h2
    subst e
    exact fun z => ha (any_key.mpr (z ▸ h1))
def oth (h : Held) (k : Nat) : List Row := (h.filter fun p => decide (p.1 ≠ k)).map (·.2)
theorem mem_oth {h : Held} {k : Nat} {r : Row} : r ∈ oth h k ↔ ∃ p ∈ h, p.1 ≠ k ∧ p.2 = r := by
  unfold oth
  rw [List.mem_map]
  constructor
  · rintro ⟨p, hp, e⟩
    have := List.mem_filter.mp hp
    exact ⟨p, this.1, by simpa using this.2, e⟩
  · rintro ⟨p, hp, h1, e⟩
    exact ⟨p, List.mem_filter.mpr ⟨hp, by simpa using h1⟩, e⟩
theorem mem_hputR {h : Held} {k : Nat} {r x : Row} : x ∈ (hput h k r).map (·.2) ↔ x = r ∨ x ∈ oth h k := by
  rw [List.mem_map, mem_oth]
  constructor
  · rintro ⟨p, hp, e⟩
    rcases mem_hput.mp hp with q | ⟨q1, q2⟩
    · left; rw [← e, q]
    · exact .inr ⟨p, q1, q2, e⟩
  · rintro (e | ⟨p, hp, h1, e⟩)
    · exact ⟨(k, r), mem_hput.mpr (.inl rfl), e.symm⟩
    · exact ⟨p, mem_hput.mpr (.inr ⟨hp, h1⟩), e⟩
theorem nodup_key {h : Held} (hn : (h.map (·.1)).Nodup) {p q : Nat × Row} (hp : p ∈ h) (hq : q ∈ h) (e : p.1 = q.1) : p = q := by
  induction h with
  | nil => cases hp
  | cons a h ih =>
    rw [List.map_cons, List.nodup_cons] at hn
    rcases List.mem_cons.mp hp with h1 | h1 <;> rcases List.mem_cons.mp hq with h2 | h2
    · rw [h1, h2]
    · exact absurd (List.mem_map.mpr ⟨q, h2, by rw [← e, h1]⟩) hn.1
    · exact absurd (List.mem_map.mpr ⟨p, h1, by rw [e, h2]⟩) hn.1
    · exact ih hn.2 h1 h2
theorem mem_heldR {h : Held} {k : Nat} {own x : Row} (hn : (h.map (·.1)).Nodup) (hg : hget h k = some own) : x ∈ h.map (·.2) ↔ x = own ∨ x ∈ oth h k := by
  rw [List.mem_map, mem_oth]
  constructor
  · rintro ⟨p, hp, e⟩
    by_cases hk : p.1 = k
    · left
      have := nodup_key hn hp (hget_mem hg) hk
      rw [← e, this]
    · exact .inr ⟨p, hp, hk, e⟩
  · rintro (e | ⟨p, hp, _, e⟩)
    · exact ⟨_, hget_mem hg, e.symm⟩
    · exact ⟨p, hp, e⟩
theorem SpEq.mem {L L' : List Row} (h : ∀ x, x ∈ L ↔ x ∈ L') : SpEq L L' := SpEq.of (fun r hr => Sp.mem ((h r).mp hr)) (fun r hr => Sp.mem ((h r).mpr hr))
/-! ### sizes -/
def hhOf (r : Nat → Nat) : Nat → Nat
  | 0 => 0
  | t + 1 => hhOf r t + r t + 3
def rrF (s : Nat) : Nat → Nat → Nat
  | 0 => fun _ => s
  | k + 1 => fun t => hhOf (rrF s k) (t + 1)
def hh (s k t : Nat) : Nat := hhOf (rrF s k) t
theorem hh_succ (s k t : Nat) : hh s k (t + 1) = hh s k t + rrF s k t + 3 := rfl
theorem rr_succ (s k t : Nat) : rrF s (k + 1) t = hh s k t + rrF s k t + 3 := rfl
/-! ### Euclid's steps on two rows -/
structure EB (k h r : Nat) (own row : Row) : Prop where
  ex : ∃ (D c M : Nat), M = 2 ^ (h + r + 1) ∧ 0 < D ∧ D < 2 ^ r ∧ (own.getD k 0).natAbs ≤ D ∧ 0 < (own.getD k 0).natAbs ∧ (row.getD k 0 ≠ 0 → SS (own.getD k 0) (row.getD k 0)) ∧ (row.getD k 0).natAbs < (own.getD k 0).natAbs ∧
    (own.getD k 0).natAbs + (row.getD k 0).natAbs ≤ c ∧ (∀ j, (own.getD k 0 * row.getD j 0 - row.getD k 0 * own.getD j 0).natAbs ≤ M) ∧ ∀ j, c * D * (own.getD j 0).natAbs ≤ D * (2 * M) + c * (own.getD k 0).natAbs * 2 ^ r
theorem eb_own {k h r : Nat} {own row : Row} (e : EB k h r own row) (j : Nat) : (own.getD j 0).natAbs < 2 ^ (h + r + 3) := by
  obtain ⟨D, c, M, hM, d0, d1, a1, a0, ss, ba, hc, hm, hb⟩ := e.ex
  have h1 := hb j
  generalize (own.getD j 0).natAbs = x at *
  generalize (own.getD k 0).natAbs = α at *
  generalize (row.getD k 0).natAbs = β at *
  have c0 : 0 < c := by omega
  -- c D x ≤ 2 D M + c D 2^r
  have h2 : c * α * 2 ^ r ≤ c * D * 2 ^ r := Nat.mul_le_mul_right _ (Nat.mul_le_mul_left _ a1)
  have h3 : D * (2 * M) ≤ c * D * (2 * M) := by
    have := Nat.mul_le_mul_right (D * (2 * M)) c0
    rw [Nat.mul_assoc]
    omega
  have h4 : c * D * x ≤ c * D * (2 * M + 2 ^ r) := by rw [Nat.mul_add]; omega
  have h5 : x ≤ 2 * M + 2 ^ r := Nat.le_of_mul_le_mul_left h4 (Nat.mul_pos c0 d0)
  have h6 : 2 * M = 2 ^ (h + r + 2) := by rw [hM, show h + r + 2 = (h + r + 1) + 1 by omega, Nat.pow_succ]; omega
  have h7 : 2 ^ (h + r + 3) = 2 ^ (h + r + 2) + 2 ^ (h + r + 2) := by rw [show h + r + 3 = (h + r + 2) + 1 by omega, Nat.pow_succ]; omega
  have h8 : 2 ^ r < 2 ^ (h + r + 2) := Nat.pow_lt_pow_right (by decide) (by omega)
  omega
theorem mul_abs_le {a b c d : Int} {M : Nat} (h : (a * b - c * d).natAbs ≤ M) : a.natAbs * b.natAbs ≤ M + c.natAbs * d.natAbs := by
  rw [← Int.natAbs_mul, ← Int.natAbs_mul]
  omega
/-- the bound for the row -/
theorem eb_row' {k h r : Nat} {own row : Row} (e : EB k h r own row) : ∃ (D M : Nat), M = 2 ^ (h + r + 1) ∧ 0 < D ∧ D < 2 ^ r ∧ (own.getD k 0).natAbs ≤ D ∧
    ∀ j, (own.getD k 0).natAbs * D * (row.getD j 0).natAbs ≤ D * (2 * M) + (own.getD k 0).natAbs * (row.getD k 0).natAbs * 2 ^ r := by
  obtain ⟨D, c, M, hM, d0, d1, a1, a0, ss, ba, hc, hm, hb⟩ := e.ex
  refine ⟨D, M, hM, d0, d1, a1, fun j => ?_⟩
  have h1 := mul_abs_le (hm j)
  have h2 := hb j
  generalize (own.getD j 0).natAbs = x at *
  generalize (row.getD j 0).natAbs = y at *
  generalize (own.getD k 0).natAbs = α at *
  generalize (row.getD k 0).natAbs = β at *
  have c0 : 0 < c := by omega
  -- c (β D x) ≤ c (D M + α β 2^r)
  have h3 : c * (β * D * x) ≤ c * (D * M + α * β * 2 ^ r) := by
    have g1 : β * (c * D * x) ≤ β * (D * (2 * M) + c * α * 2 ^ r) := Nat.mul_le_mul_left _ h2
    have g2 : 2 * β ≤ c := by omega
    have g3 : 2 * β * (D * M) ≤ c * (D * M) := Nat.mul_le_mul_right _ g2
    have e1 : c * (β * D * x) = β * (c * D * x) := by ac_rfl
    have e2 : β * (D * (2 * M) + c * α * 2 ^ r) = 2 * β * (D * M) + c * (α * β * 2 ^ r) := by
      rw [Nat.mul_add]
      congr 1 <;> ac_rfl
    have e3 : c * (D * M + α * β * 2 ^ r) = c * (D * M) + c * (α * β * 2 ^ r) := Nat.mul_add _ _ _
    rw [e1, e3]
    omega
  have h4 : β * D * x ≤ D * M + α * β * 2 ^ r := Nat.le_of_mul_le_mul_left h3 c0
  have h5 : D * (α * y) ≤ D * (M + β * x) := Nat.mul_le_mul_left _ h1
  have e1 : α * D * y = D * (α * y) := by ac_rfl
  have e2 : D * (M + β * x) = D * M + β * D * x := by rw [Nat.mul_add]; congr 1; ac_rfl
  have e3 : D * (2 * M) = D * M + D * M := by rw [Nat.two_mul, Nat.mul_add]
  rw [e1, e3]
  omega
theorem eb_row {k h r : Nat} {own row : Row} (e : EB k h r own row) (j : Nat) : (row.getD j 0).natAbs < 2 ^ (h + r + 3) := by
  obtain ⟨D, M, hM, d0, d1, a1, hb⟩ := eb_row' e
  obtain ⟨_, _, _, _, _, _, _, a0, _, ba, _⟩ := e.ex
  have h1 := hb j
  generalize (row.getD j 0).natAbs = y at *
  generalize (own.getD k 0).natAbs = α at *
  generalize (row.getD k 0).natAbs = β at *
  have h2 : α * β * 2 ^ r ≤ α * D * 2 ^ r := Nat.mul_le_mul_right _ (Nat.mul_le_mul_left _ (by omega))
  have h3 : D * (2 * M) ≤ α * D * (2 * M) := by
    have := Nat.mul_le_mul_right (D * (2 * M)) a0
    rw [Nat.mul_assoc]
    omega
  have h4 : α * D * y ≤ α * D * (2 * M + 2 ^ r) := by rw [Nat.mul_add]; omega
  have h5 : y ≤ 2 * M + 2 ^ r := Nat.le_of_mul_le_mul_left h4 (Nat.mul_pos a0 d0)
  have h6 : 2 * M = 2 ^ (h + r + 2) := by rw [hM, show h + r + 2 = (h + r + 1) + 1 by omega, Nat.pow_succ]; omega
  have h7 : 2 ^ (h + r + 3) = 2 ^ (h + r + 2) + 2 ^ (h + r + 2) := by rw [show h + r + 3 = (h + r + 2) + 1 by omega, Nat.pow_succ]; omega
  have h8 : 2 ^ r < 2 ^ (h + r + 2) := Nat.pow_lt_pow_right (by decide) (by omega)
  omega
theorem cross {a b x y q : Int} : b * (x - q * y) - (a - q * b) * y = -(a * y - b * x) := by
  rw [Int.mul_sub, Int.sub_mul]
  have : b * (q * y) = q * b * y := by rw [← Int.mul_assoc, Int.mul_comm b q]
  omega
theorem eb_step {k h r : Nat} {own row : Row} (hl : own.length = row.length) (h0 : row.getD k 0 ≠ 0) (e : EB k h r own row) : EB k h r row (red own row k) := by
  have e2 := eb_row' e
  obtain ⟨D2, M2, hM2, d02, d12, a12, hb2⟩ := e2
  obtain ⟨D, c, M, hM, d0, d1, a1, a0, ss, ba, hc, hm, hb⟩ := e.ex
  have q := ss_quo (ss h0)
  have hp : (red own row k).getD k 0 = (own.getD k 0).fmod (row.getD k 0) := red_p hl
  refine ⟨D2, (own.getD k 0).natAbs, M, hM, d02, d12, by omega, by omega, fun hn => ?_, ?_, ?_, fun j => ?_, fun j => ?_⟩
  · rw [hp] at hn ⊢
    have := fmod_ss h0 hn
    unfold SS at *
    omega
  · rw [hp]; exact fmod_small h0
  · rw [hp, q.2]
    have g10 := Nat.div_add_mod (own.getD k 0).natAbs (row.getD k 0).natAbs
    have g11 : 1 ≤ (own.getD k 0).natAbs / (row.getD k 0).natAbs := (Nat.one_le_div_iff (by omega)).mpr (by omega)
    have g12 := Nat.mul_le_mul_left (row.getD k 0).natAbs g11
    omega
  · rw [red_at hl, red_at hl k, cross, Int.natAbs_neg]
    exact hm j
  · have := hb2 j
    rw [hM, ← hM2]
    exact this
theorem eb_first {k h r : Nat} {own row : Row} (hl : own.length = row.length) (h0 : row.getD k 0 ≠ 0) (h1 : ∀ x ∈ own, x.natAbs < 2 ^ h) (h2 : ∀ x ∈ row, x.natAbs < 2 ^ r) : EB k h r row (red own row k) := by
  have hp : (red own row k).getD k 0 = (own.getD k 0).fmod (row.getD k 0) := red_p hl
  have b1 : ∀ j, (own.getD j 0).natAbs ≤ 2 ^ h := getD_bd fun x hx => Nat.le_of_lt (h1 x hx)
  have b2 : ∀ j, (row.getD j 0).natAbs ≤ 2 ^ r := getD_bd fun x hx => Nat.le_of_lt (h2 x hx)
  have hlt : (row.getD k 0).natAbs < 2 ^ r := by
    by_cases hk : k < row.length
    · rw [List.getD_eq_getElem?_getD, List.getElem?_eq_getElem hk]
      exact h2 _ (List.getElem_mem hk)
    · exact absurd (by simp [Nat.not_lt.mp hk]) h0
  have hfs := fmod_small (a := own.getD k 0) h0
  refine ⟨(row.getD k 0).natAbs, 2 * (row.getD k 0).natAbs, _, rfl, by omega, hlt, Nat.le_refl _, by omega, fun hn => ?_, by rw [hp]; exact hfs, by rw [hp]; omega, fun j => ?_, fun j => ?_⟩
  · rw [hp] at hn ⊢
    have := fmod_ss h0 hn
    unfold SS at *
    omega
  · rw [red_at hl, red_at hl k, cross, Int.natAbs_neg]
    have g1 := Nat.mul_le_mul (b1 k) (b2 j)
    have g2 := Nat.mul_le_mul (b2 k) (b1 j)
    rw [← Int.natAbs_mul] at g1 g2
    have e : 2 ^ (h + r + 1) = 2 ^ h * 2 ^ r + 2 ^ r * 2 ^ h := by rw [Nat.pow_succ, Nat.pow_add, Nat.mul_comm (2 ^ r)]; omega
    omega
  · have := Nat.mul_le_mul_left (2 * (row.getD k 0).natAbs * (row.getD k 0).natAbs) (b2 j)
    omega
end K86
namespace K86
open L2 WL
structure HE (n : Nat) (held : Held) (bk : Nat → Nat) : Prop where
  nd : (held.map (·.1)).Nodup
  it : ∀ p ∈ held, p.1 < n ∧ p.2.length = n ∧ (∀ j, j < p.1 → p.2.getD j 0 = 0) ∧ p.2.getD p.1 0 ≠ 0 ∧ (p.2.getD p.1 0).natAbs < 2 ^ 9000 ∧ ∀ x ∈ p.2, x.natAbs < 2 ^ bk p.1
theorem HE.mono {n : Nat} {held : Held} {b b' : Nat → Nat} (h : HE n held b) (hb : ∀ k, b k ≤ b' k) : HE n held b' :=
  ⟨h.nd, fun p hp => by
    obtain ⟨h1, h2, h3, h4, h5, h6⟩ := h.it p hp
    exact ⟨h1, h2, h3, h4, h5, fun x hx => Nat.lt_of_lt_of_le (h6 x hx) (pow_mono (hb _))⟩⟩
theorem HE.put {n k : Nat} {held : Held} {b b' : Nat → Nat} {r : Row} (h : HE n held b) (hb : ∀ j, j ≠ k → b j ≤ b' j) (hk : k < n) (h2 : r.length = n) (h3 : ∀ j, j < k → r.getD j 0 = 0) (h4 : r.getD k 0 ≠ 0) (h5 : (r.getD k 0).natAbs < 2 ^ 9000) (h6 : ∀ x ∈ r, x.natAbs < 2 ^ b' k) :
    HE n (hput held k r) b' :=
  ⟨keys_hput h.nd, fun p hp => by
    rcases mem_hput.mp hp with e | ⟨e1, e2⟩
    · subst e
      exact ⟨hk, h2, h3, h4, h5, h6⟩
    · obtain ⟨g1, g2, g3, g4, g5, g6⟩ := h.it p e1
      exact ⟨g1, g2, g3, g4, g5, fun x hx => Nat.lt_of_lt_of_le (g6 x hx) (pow_mono (hb _ e2))⟩⟩
theorem nodup_len {n : Nat} : ∀ {l : List Nat}, l.Nodup → (∀ x ∈ l, x < n) → l.length ≤ n := by
  induction n with
  | zero =>
    intro l _ h
    cases l with
    | nil => exact Nat.le_refl _
    | cons a l => exact absurd (h a (List.mem_cons_self ..)) (by omega)
  | succ n ih =>
    intro l hn h
    have h1 : (l.filter fun x => decide (x ≠ n)).length ≤ n := ih (hn.sublist List.filter_sublist) fun x hx => by
      have := List.mem_filter.mp hx
      have h2 := h x this.1
      have h3 : x ≠ n := by simpa using this.2
      omega
    have h2 : l.length ≤ (l.filter fun x => decide (x ≠ n)).length + 1 := by
      clear h1 ih h
      induction l with
      | nil => simp
      | cons a l ih =>
        rw [List.nodup_cons] at hn
        rw [List.filter_cons]
        by_cases ha : a = n
        · subst ha
          have : (l.filter fun x => decide (x ≠ a)) = l := List.filter_eq_self.mpr fun x hx => by
            have : x ≠ a := fun e => hn.1 (e ▸ hx)
            simpa using this
          rw [if_neg (by simp), this]
          exact Nat.le_refl _
        · have := ih hn.2
          rw [if_pos (by simpa using ha)]
          simp only [List.length_cons]
          omega
    omega
theorem HE.len {n : Nat} {held : Held} {b : Nat → Nat} (h : HE n held b) : held.length ≤ n := by
  have := nodup_len h.nd fun x hx => by
    obtain ⟨p, hp, e⟩ := List.mem_map.mp hx
    rw [← e]
    exact (h.it p hp).1
  simpa using this
/-! ### what _law_basis keeps -/
structure Hs (n s : Nat) (rows : List Row) (i : Nat) (held : Held) : Prop where
  he : HE n held fun k => hh s k i
  sp : SpEq (held.map (·.2)) (rows.take i)
def bAt (s i k j : Nat) : Nat := if j < k then hh s j (i + 1) else hh s j i
structure Gs (n s : Nat) (rows : List Row) (i k : Nat) (held : Held) (row : Row) : Prop where
  hi : i < rows.length
  he : HE n held (bAt s i k)
  rl : row.length = n
  zb : ∀ j, j < k → row.getD j 0 = 0
  bd : ∀ x ∈ row, x.natAbs < 2 ^ rrF s k i
  sp : SpEq (row :: held.map (·.2)) (rows.take (i + 1))
structure Es (n s : Nat) (rows : List Row) (i k : Nat) (held : Held) (m : Nat) (own row : Row) : Prop where
  hi : i < rows.length
  hk : k < n
  he : HE n held (bAt s i k)
  hg : ∃ own0, hget held k = some own0
  ol : own.length = n
  rl : row.length = n
  oz : ∀ j, j < k → own.getD j 0 = 0
  rz : ∀ j, j < k → row.getD j 0 = 0
  ms : m = (row.getD k 0).natAbs
  sp : SpEq (own :: row :: oth held k) (rows.take (i + 1))
  st : (row.getD k 0 ≠ 0 ∧ (∀ x ∈ own, x.natAbs < 2 ^ hh s k i) ∧ ∀ x ∈ row, x.natAbs < 2 ^ rrF s k i) ∨ EB k (hh s k i) (rrF s k i) own row
structure Fs (n : Nat) (f : Nat) (rows : List Row) (held : Held) (ks : List Nat) (j : Nat) (found : List Row) : Prop where
  he : ∃ b, HE n held b ∧ ∀ k, k < n → b k ≤ f
  hs : SpEq (held.map (·.2)) rows
  km : ∀ k, k ∈ ks ↔ k ∈ held.map (·.1)
  kl : ks.length = held.length
  kp : ks.Pairwise (· < ·)
  hn : HN n found
  fl : found.length ≤ j
  fr : ∀ r ∈ found, (r.getD (pv r) 0).natAbs < 2 ^ 9000 ∧ (∀ x ∈ r, x.natAbs < 2 ^ (j * (f + 1))) ∧ ∀ k ∈ ks.drop j, pv r < k
  sp : SpEq found ((ks.take j).filterMap (hget held))
theorem take_mem {rows : List Row} {i : Nat} {r : Row} (h : rows[i]? = some r) (x : Row) : x ∈ rows.take (i + 1) ↔ x = r ∨ x ∈ rows.take i := by
  rw [List.take_add_one, h, Option.toList_some, List.mem_append, List.mem_singleton]
  exact Or.comm
theorem lb_inv {n s : Nat} {rows : List Row} {B : List Row} (hn : n ≤ 5) (hr : rows.length ≤ 6) (hB : ∀ k, k < 5 → ∀ i, i < 6 → hh s k i ≤ 8000 ∧ rrF s k i ≤ 8000) (hB2 : ∀ k, k < 5 → ∀ i, i ≤ 6 → hh s k i ≤ 20000)
    (hrow : ∀ r ∈ rows, r.length = n ∧ ∀ x ∈ r, x.natAbs < 2 ^ s) : LbInv n rows (Hs n s rows) (Gs n s rows) (Es n s rows) (Fs n 20000 rows) where
  begin_ := fun i held r hi h => by
    have hil : i < rows.length := (List.getElem?_eq_some_iff.mp hi).1
    have hm : r ∈ rows := List.mem_of_getElem? hi
    refine ⟨hil, h.he.mono fun k => by unfold bAt; simp, (hrow r hm).1, fun j hj => absurd hj (by omega), (hrow r hm).2, ?_⟩
    refine SpEq.of (fun x hx => ?_) (fun x hx => ?_)
    · rcases List.mem_cons.mp hx with e | e
      · exact Sp.mem ((take_mem hi x).mpr (.inl e))
      · exact (h.sp.sp e).mono fun y hy => (take_mem hi y).mpr (.inr hy)
    · rcases (take_mem hi x).mp hx with e | e
      · exact Sp.mem (by rw [e]; exact List.mem_cons_self ..)
      · exact (h.sp.symm.sp e).mono fun y hy => List.mem_cons_of_mem _ hy
  len := fun i k held row h => ⟨h.rl, by have := h.he.len; omega⟩
  zero := fun i k held row hk h h0 => by
    refine ⟨h.hi, h.he.mono fun j => ?_, h.rl, fun j hj => ?_, fun x hx => Nat.lt_of_lt_of_le (h.bd x hx) (pow_mono ?_), h.sp⟩
    · unfold bAt
      have := hh_succ s j i
      split <;> split <;> omega
    · by_cases hj2 : j < k
      · exact h.zb j hj2
      · have : j = k := by omega
        rw [this]; exact h0
    · have := rr_succ s k i; omega
  new := fun i k held row hk h h0 hg => by
    have h8 := hB k (by omega) i (by have := h.hi; omega)
    refine ⟨h.hi, h.he.put (fun j hj => ?_) hk h.rl h.zb h0 (Nat.lt_of_le_of_lt (getD_bd (fun z hz => Nat.le_of_lt (h.bd z hz)) k) (Nat.pow_lt_pow_right (by decide) (by omega))) (fun x hx => Nat.lt_of_lt_of_le (h.bd x hx) (pow_mono ?_)), by simp, fun j hj => by simp [List.getD_eq_getElem?_getD, List.getElem?_replicate]; split <;> rfl, fun x hx => ?_, ?_⟩
    · unfold bAt
      have := hh_succ s j i
      split <;> split <;> omega
    · unfold bAt
      have := hh_succ s k i
      rw [if_pos (by omega)]
      omega
    · rw [List.eq_of_mem_replicate hx]
      exact Nat.pow_pos (by decide)
    · refine SpEq.trans (SpEq.of (fun x hx => ?_) (fun x hx => ?_)) h.sp
      · rcases List.mem_cons.mp hx with e | e
        · rw [e]
          exact Sp.zero.of fun j => by simp only [V]; simp [List.getD_eq_getElem?_getD, List.getElem?_replicate]; split <;> rfl
        · rcases mem_hputR.mp e with q | q
          · rw [q]; exact Sp.mem (List.mem_cons_self ..)
          · obtain ⟨p, hp, _, e2⟩ := mem_oth.mp q
            exact Sp.mem (List.mem_cons_of_mem _ (List.mem_map.mpr ⟨p, hp, e2⟩))
      · rcases List.mem_cons.mp hx with e | e
        · rw [e]; exact Sp.mem (List.mem_cons_of_mem _ (mem_hputR.mpr (.inl rfl)))
        · obtain ⟨p, hp, e2⟩ := List.mem_map.mp e
          exact Sp.mem (List.mem_cons_of_mem _ (mem_hputR.mpr (.inr (mem_oth.mpr ⟨p, hp, hget_none hg p hp, e2⟩))))
  old := fun i k held row own hk h h0 hg => by
    have hm := hget_mem hg
    obtain ⟨g1, g2, g3, g4, g5, g6⟩ := h.he.it _ hm
    refine ⟨_, h.hi, hk, h.he, ⟨own, hg⟩, g2, h.rl, g3, h.zb, rfl, SpEq.trans (SpEq.mem fun x => ?_) h.sp, .inl ⟨h0, fun x hx => ?_, h.bd⟩⟩
    · simp only [List.mem_cons, mem_heldR h.he.nd hg]
      constructor
      · rintro (q | q | q)
        · exact .inr (.inl q)
        · exact .inl q
        · exact .inr (.inr q)
      · rintro (q | q | q)
        · exact .inr (.inl q)
        · exact .inl q
        · exact .inr (.inr q)
    · have := g6 x hx
      unfold bAt at this
      rw [if_neg (by simp)] at this
      exact this
  eu := fun i k held m own row h => by
    have hi6 : i < 6 := by have := h.hi; omega
    have h8 := hB k (by have := h.hk; omega) i hi6
    have hlen : own.length = row.length := by rw [h.ol, h.rl]
    refine ⟨h.ol, h.rl, by have := h.he.len; omega, fun h0 => ?_, fun h0 => ?_⟩
    · -- a step
      have bO : (∀ x ∈ own, x.natAbs < 2 ^ (hh s k i + rrF s k i + 3)) ∧ (∀ x ∈ row, x.natAbs < 2 ^ (hh s k i + rrF s k i + 3)) := by
        rcases h.st with ⟨_, q1, q2⟩ | q
        · exact ⟨fun x hx => Nat.lt_of_lt_of_le (q1 x hx) (pow_mono (by omega)), fun x hx => Nat.lt_of_lt_of_le (q2 x hx) (pow_mono (by omega))⟩
        · refine ⟨fun x hx => ?_, fun x hx => ?_⟩
          · obtain ⟨j, _, rfl⟩ := mem_getD hx
            exact eb_own q j
          · obtain ⟨j, _, rfl⟩ := mem_getD hx
            exact eb_row q j
      have bR : (row.getD k 0).natAbs < 2 ^ 9000 := by
        rcases h.st with ⟨_, q1, q2⟩ | q
        · exact Nat.lt_of_le_of_lt (getD_bd (fun z hz => Nat.le_of_lt (q2 z hz)) k) (Nat.pow_lt_pow_right (by decide) (by omega))
        · obtain ⟨D, c, M, hM, d0, d1, a1, a0, ss, ba, _⟩ := q.ex
          have : 2 ^ rrF s k i ≤ 2 ^ 9000 := pow_mono (by omega)
          omega
      have bP : (own.getD k 0).natAbs < 2 ^ 20000 := Nat.lt_of_le_of_lt (getD_bd (fun z hz => Nat.le_of_lt (bO.1 z hz)) k) (Nat.pow_lt_pow_right (by decide) (by omega))
      refine ⟨redOk_of (a := 20000) (c := hh s k i + rrF s k i + 3) h0 bR bP bO.2 (by omega) (by omega) (by omega), _, ?_, ⟨h.hi, h.hk, h.he, h.hg, h.rl, by rw [red_length hlen]; exact h.ol, h.rz, fun j hj => ?_, rfl, ?_, .inr ?_⟩⟩
      · rw [h.ms, red_p hlen]
        exact fmod_small h0
      · rw [red_at hlen, h.oz j hj, h.rz j hj]; simp
      · refine SpEq.trans (SpEq.of (fun x hx => ?_) (fun x hx => ?_)) h.sp
        · have so : Sp (own :: row :: oth held k) (V own) := Sp.mem (List.mem_cons_self ..)
          have sr : Sp (own :: row :: oth held k) (V row) := Sp.mem (List.mem_cons_of_mem _ (List.mem_cons_self ..))
          rcases List.mem_cons.mp hx with e | e
          · rw [e]; exact sr
          · rcases List.mem_cons.mp e with e | e
            · rw [e]; exact red_mem hlen so sr
            · exact Sp.mem (List.mem_cons_of_mem _ (List.mem_cons_of_mem _ e))
        · have sr : Sp (row :: red own row k :: oth held k) (V row) := Sp.mem (List.mem_cons_self ..)
          have sd : Sp (row :: red own row k :: oth held k) (V (red own row k)) := Sp.mem (List.mem_cons_of_mem _ (List.mem_cons_self ..))
          rcases List.mem_cons.mp hx with e | e
          · rw [e]; exact red_back (p := k) hlen sd sr
          · rcases List.mem_cons.mp e with e | e
            · rw [e]; exact sr
            · exact Sp.mem (List.mem_cons_of_mem _ (List.mem_cons_of_mem _ e))
      · rcases h.st with ⟨_, q1, q2⟩ | q
        · exact eb_first hlen h0 q1 q2
        · exact eb_step hlen h0 q
    · -- the end
      have q : EB k (hh s k i) (rrF s k i) own row := h.st.resolve_left fun ⟨q, _⟩ => q h0
      obtain ⟨D, c, M, hM, d0, d1, a1, a0, ss, ba, _⟩ := q.ex
      have hp : 2 ^ rrF s k i ≤ 2 ^ 9000 := pow_mono (by omega)
      have e1 := hh_succ s k i
      have e2 := rr_succ s k i
      refine ⟨h.hi, h.he.put (fun j hj => ?_) h.hk h.ol h.oz (by omega) (by omega) (fun x hx => ?_), h.rl, fun j hj => ?_, fun x hx => ?_, SpEq.trans (SpEq.mem fun x => ?_) h.sp⟩
      · unfold bAt
        have := hh_succ s j i
        split <;> split <;> omega
      · obtain ⟨j, _, rfl⟩ := mem_getD hx
        unfold bAt
        rw [if_pos (by omega), e1]
        exact eb_own q j
      · by_cases hj2 : j < k
        · exact h.rz j hj2
        · have : j = k := by omega
          rw [this]; exact h0
      · obtain ⟨j, _, rfl⟩ := mem_getD hx
        rw [e2]
        exact eb_row q j
      · simp only [List.mem_cons, mem_hputR]
        constructor
        · rintro (q | q | q)
          · exact .inr (.inl q)
          · exact .inl q
          · exact .inr (.inr q)
        · rintro (q | q | q)
          · exact .inr (.inl q)
          · exact .inl q
          · exact .inr (.inr q)
  next := fun i held row hi h => by
    refine ⟨⟨h.he.nd, fun p hp => ?_⟩, SpEq.trans (SpEq.of (fun x hx => Sp.mem (List.mem_cons_of_mem _ hx)) (fun x hx => ?_)) h.sp⟩
    · obtain ⟨g1, g2, g3, g4, g5, g6⟩ := h.he.it p hp
      refine ⟨g1, g2, g3, g4, g5, fun x hx => ?_⟩
      have := g6 x hx
      unfold bAt at this
      rw [if_pos g1] at this
      exact this
    · rcases List.mem_cons.mp hx with e | e
      · rw [e]
        refine Sp.zero.of fun j => ?_
        by_cases hj : j < n
        · exact (h.zb j hj).symm
        · simp [V, h.rl, Nat.not_lt.mp hj]
      · exact Sp.mem e
  hl := fun held h => by have := h.he.len; omega
  flen := fun held ks found h => by
    obtain ⟨b, hb, _⟩ := h.he
    have := hb.len
    have := h.fl
    have := h.kl
    omega
  f0 := fun held ks h hp hs => by
    have hpk : ks.Perm (held.map (·.1)) := by
      have h1 := hp.map Int.toNat
      rw [List.map_map, List.map_map] at h1
      have e1 : ks.map (Int.toNat ∘ fun x : Nat => (x : Int)) = ks := by
        conv => rhs; rw [← List.map_id ks]
        exact List.map_congr_left fun x _ => rfl
      rw [e1] at h1
      exact h1
    have hnd : ks.Nodup := (hpk.nodup_iff).mpr h.he.nd
    refine ⟨⟨_, h.he, fun k hk => hB2 k (by omega) _ hr⟩, by have := h.sp; rw [List.take_length] at this; exact this, fun k => hpk.mem_iff, by have := hpk.length_eq; simpa using this, ?_, ⟨fun b hb => absurd hb (by simp), .nil⟩, Nat.le_refl _, fun r hr => absurd hr (by simp), SpEq.refl _⟩
    have := hs.and hnd
    exact this.imp fun ⟨a, b⟩ => by omega
  fs := fun held ks j k found hj h => by
    obtain ⟨b, hb, hbf⟩ := h.he
    have hbl := hb.len
    have hkl := h.kl
    have hjl : j < ks.length := (List.getElem?_eq_some_iff.mp hj).1
    have hks : k ∈ ks := List.mem_of_getElem? hj
    obtain ⟨own0, hg, hm⟩ := hget_key ((h.km k).mp hks)
    obtain ⟨g1, g2, g3, g4, g5, g6⟩ := hb.it _ hm
    have hown : OwnR n k 20000 (ownOf own0 k) := ownOf_R g2 g3 g4 g5 fun x hx => Nat.lt_of_lt_of_le (g6 x hx) (pow_mono (hbf k g1))
    have hdrop : k ∈ ks.drop j := by
      rw [List.drop_eq_getElem_cons hjl]
      have := (List.getElem?_eq_some_iff.mp hj).2
      rw [this]
      exact List.mem_cons_self ..
    have hfr : ∀ r ∈ found, FR n k (j * (20000 + 1)) r := fun r hr => ⟨(h.fr r hr).2.2 k hdrop, (h.fr r hr).1, (h.fr r hr).2.1⟩
    obtain ⟨p1, p2, p3⟩ := hn_push g1 h.hn hfr hown (by decide)
    have ek : ks[j] = k := (List.getElem?_eq_some_iff.mp hj).2
    refine ⟨h.fl, by omega, own0, hg, g2, g1, fun r hr => ⟨(h.hn.row r hr).1, ?_⟩, ⟨⟨b, hb, hbf⟩, h.hs, h.km, h.kl, h.kp, p1, by have := h.fl; simp; omega, fun r hr => ⟨(p2 r hr).piv, fun x hx => Nat.lt_of_lt_of_le ((p2 r hr).bd x hx) (pow_mono (by rw [Nat.add_mul]; omega)), fun k' hk' => ?_⟩, ?_⟩⟩
    · refine redOk_of (a := j * (20000 + 1) + 1) (c := 20000) (by have := hown.pos; omega) hown.piv ?_ hown.bd (by omega) (by decide) (by omega)
      exact Nat.lt_of_le_of_lt (getD_bd (fun z hz => Nat.le_of_lt ((h.fr r hr).2.1 z hz)) k) (Nat.pow_lt_pow_right (by decide) (by omega))
    · have hpw := h.kp
      have hkk : k < k' := by
        have := List.pairwise_iff_getElem.mp hpw
        obtain ⟨a, ha, e⟩ := List.getElem_of_mem hk'
        rw [List.length_drop] at ha
        rw [List.getElem_drop] at e
        have := this j (j + 1 + a) hjl (by omega) (by omega)
        rw [ek, e] at this
        exact this
      have := (p2 r hr).pvl
      omega
    · have e2 : (ks.take (j + 1)).filterMap (hget held) = (ks.take j).filterMap (hget held) ++ [own0] := by
        rw [List.take_add_one, hj, List.filterMap_append]
        simp [hg]
      rw [e2]
      refine SpEq.trans p3 (SpEq.of (fun x hx => ?_) (fun x hx => ?_))
      · rcases List.mem_append.mp hx with e | e
        · exact (h.sp.sp e).mono fun y hy => List.mem_append_left _ hy
        · rw [List.mem_singleton.mp e]
          exact ownOf_V.mpr (Sp.mem (List.mem_append_right _ (List.mem_singleton.mpr rfl)))
      · rcases List.mem_append.mp hx with e | e
        · exact (h.sp.symm.sp e).mono fun y hy => List.mem_append_left _ hy
        · rw [List.mem_singleton.mp e]
          exact ownOf_V.mp (Sp.mem (List.mem_append_right _ (List.mem_singleton.mpr rfl)))
theorem fs_end {n f : Nat} {rows found : List Row} {held : Held} {ks : List Nat} (h : Fs n f rows held ks ks.length found) : HN n found ∧ SpEq found rows := by
  refine ⟨h.hn, SpEq.trans h.sp (SpEq.trans (SpEq.mem fun x => ?_) h.hs)⟩
  rw [List.take_length, List.mem_filterMap, List.mem_map]
  obtain ⟨b, hb, _⟩ := h.he
  constructor
  · rintro ⟨k, _, e⟩
    exact ⟨_, hget_mem e, rfl⟩
  · rintro ⟨p, hp, e⟩
    obtain ⟨r, hg, hm⟩ := hget_key (h := held) (k := p.1) (List.mem_map.mpr ⟨p, hp, rfl⟩)
    refine ⟨p.1, (h.km p.1).mpr (List.mem_map.mpr ⟨p, hp, rfl⟩), ?_⟩
    have := nodup_key hb.nd hm hp rfl
    rw [hg, ← e, ← this]
theorem hs_start {n s : Nat} {rows : List Row} : Hs n s rows 0 [] := ⟨⟨List.nodup_nil, fun p hp => absurd hp (by simp)⟩, SpEq.refl _⟩
end K86
/-! Minors under the clearing of a cross. -/
namespace TM
abbrev Mx := Nat → Nat → Int
def d2 (M : Mx) (i k j l : Nat) : Int := M i j * M k l - M i l * M k j
def d3 (M : Mx) (i k q j l o : Nat) : Int := M i j * d2 M k q l o - M i l * d2 M k q j o + M i o * d2 M k q j l
def d4 (M : Mx) (i k q t j l o e : Nat) : Int := M i j * d3 M k q t l o e - M i l * d3 M k q t j o e + M i o * d3 M k q t j l e - M i e * d3 M k q t j l o
/-- N with its cross at a cleared -/
structure Clr (a : Nat) (N M : Mx) : Prop where
  p0 : N a a ≠ 0
  cc : M a a = N a a
  cl : ∀ i, a < i → M i a = (N i a).fmod (N a a)
  rw_ : ∀ j, a < j → M a j = (N a j).fmod (N a a)
  inn : ∀ i j, a < i → a < j → N a a * M i j = N a a * N i j - N i a * N a j + M i a * M a j
theorem fmod_small {a b : Int} (h : b ≠ 0) : (a.fmod b).natAbs < b.natAbs := by
  rcases Int.lt_or_le 0 b with h0 | h0
  · have h1 := Int.fmod_nonneg_of_pos a h0
    have h2 := Int.fmod_lt_of_pos a h0
    omega
  · have h3 : 0 < -b := by omega
    have h1 := Int.fmod_nonneg_of_pos (-a) h3
    have h2 := Int.fmod_lt_of_pos (-a) h3
    have h4 : (-a).fmod (-b) = -(a.fmod b) := by rw [Int.neg_fmod_neg]
    omega
theorem of_mul {p x e : Int} {B : Nat} (hp : p ≠ 0) (h : p * x = e) (hb : e.natAbs ≤ p.natAbs * B) : x.natAbs ≤ B := by
  have h1 : p.natAbs * x.natAbs ≤ p.natAbs * B := by rw [← Int.natAbs_mul, h]; exact hb
  exact Nat.le_of_mul_le_mul_left h1 (by omega)
theorem mul_bd {x y : Int} {A B : Nat} (h1 : x.natAbs ≤ A) (h2 : y.natAbs ≤ B) : (x * y).natAbs ≤ A * B := by
  rw [Int.natAbs_mul]; exact Nat.mul_le_mul h1 h2
section
variable {a : Nat} {N M : Mx}
theorem Clr.r (h : Clr a N M) {i : Nat} (hi : a < i) : (M i a).natAbs ≤ (N a a).natAbs := by rw [h.cl i hi]; exact Nat.le_of_lt (fmod_small h.p0)
theorem Clr.s (h : Clr a N M) {i : Nat} (hi : a < i) : (M a i).natAbs ≤ (N a a).natAbs := by rw [h.rw_ i hi]; exact Nat.le_of_lt (fmod_small h.p0)
theorem Clr.A2 (h : Clr a N M) {k l : Nat} (hk : a < k) (hl : a < l) : d2 M a k a l = d2 N a k a l := by
  have h1 := h.inn k l hk hl
  have h2 := h.cc
  simp only [d2]; grind
theorem Clr.R2 (h : Clr a N M) {k j l : Nat} (hk : a < k) (hj : a < j) (hl : a < l) : N a a * d2 M a k j l = M a j * d2 N a k a l - M a l * d2 N a k a j := by
  have h1 := h.inn k l hk hl
  have h2 := h.inn k j hk hj
  simp only [d2]; grind
theorem Clr.C2 (h : Clr a N M) {i k l : Nat} (hi : a < i) (hk : a < k) (hl : a < l) : N a a * d2 M i k a l = M i a * d2 N a k a l - M k a * d2 N a i a l := by
  have h1 := h.inn k l hk hl
  have h2 := h.inn i l hi hl
  simp only [d2]; grind
theorem Clr.N2 (h : Clr a N M) {i k j l : Nat} (hi : a < i) (hk : a < k) (hj : a < j) (hl : a < l) :
    N a a * (N a a * d2 M i k j l) = N a a * d3 N a i k a j l + (d2 N a i a j * (M k a * M a l) + d2 N a k a l * (M i a * M a j) - d2 N a i a l * (M k a * M a j) - d2 N a k a j * (M i a * M a l)) := by
  have h1 := h.inn i j hi hj
  have h2 := h.inn k l hk hl
  have h3 := h.inn i l hi hl
  have h4 := h.inn k j hk hj
  simp only [d2, d3]; grind
theorem d2_rs (M : Mx) (i k j l : Nat) : d2 M k i j l = - d2 M i k j l := by simp only [d2]; grind
theorem d2_cs (M : Mx) (i k j l : Nat) : d2 M i k l j = - d2 M i k j l := by simp only [d2]; grind
/-- how 2 by 2 minors grow -/
theorem Clr.B2 (h : Clr a N M) {X2 X3 : Nat} (h2 : ∀ k l, a < k → a < l → (d2 N a k a l).natAbs ≤ X2) (h3 : ∀ i k j l, a < i → a < k → a < j → a < l → (d3 N a i k a j l).natAbs ≤ X3) :
    ∀ i k j l, a ≤ i → a ≤ k → a ≤ j → a ≤ l → (d2 M i k j l).natAbs ≤ 4 * X2 + X3 := by
  have p0 := h.p0
  have p1 : 1 ≤ (N a a).natAbs := by omega
  have hA : ∀ k l, a < k → a < l → (d2 M a k a l).natAbs ≤ X2 := fun k l hk hl => by rw [h.A2 hk hl]; exact h2 k l hk hl
  have hR : ∀ k j l, a < k → a < j → a < l → (d2 M a k j l).natAbs ≤ 2 * X2 := fun k j l hk hj hl => by
    refine of_mul p0 (h.R2 hk hj hl) ?_
    have q1 := mul_bd (h.s hj) (h2 k l hk hl)
    have q2 := mul_bd (h.s hl) (h2 k j hk hj)
    rw [show (N a a).natAbs * (2 * X2) = (N a a).natAbs * X2 + (N a a).natAbs * X2 by rw [← Nat.mul_add]; congr 1; omega]
    omega
  have hC : ∀ i k l, a < i → a < k → a < l → (d2 M i k a l).natAbs ≤ 2 * X2 := fun i k l hi hk hl => by
    refine of_mul p0 (h.C2 hi hk hl) ?_
    have q1 := mul_bd (h.r hi) (h2 k l hk hl)
    have q2 := mul_bd (h.r hk) (h2 i l hi hl)
    rw [show (N a a).natAbs * (2 * X2) = (N a a).natAbs * X2 + (N a a).natAbs * X2 by rw [← Nat.mul_add]; congr 1; omega]
    omega
  have hN : ∀ i k j l, a < i → a < k → a < j → a < l → (d2 M i k j l).natAbs ≤ 4 * X2 + X3 := fun i k j l hi hk hj hl => by
    have e := h.N2 hi hk hj hl
    have pp : ∀ {x y : Int}, x.natAbs ≤ (N a a).natAbs → y.natAbs ≤ (N a a).natAbs → (x * y).natAbs ≤ (N a a).natAbs * (N a a).natAbs := fun u v => mul_bd u v
    have q1 := mul_bd (h2 i j hi hj) (pp (h.r hk) (h.s hl))
    have q2 := mul_bd (h2 k l hk hl) (pp (h.r hi) (h.s hj))
    have q3 := mul_bd (h2 i l hi hl) (pp (h.r hk) (h.s hj))
    have q4 := mul_bd (h2 k j hk hj) (pp (h.r hi) (h.s hl))
    have q5 := mul_bd (Nat.le_refl (N a a).natAbs) (h3 i k j l hi hk hj hl)
    rw [← Int.mul_assoc] at e
    refine of_mul (p := N a a * N a a) (by intro z; rcases Int.mul_eq_zero.mp z with z | z <;> exact p0 z) e ?_
    rw [Int.natAbs_mul]
    have g1 : (N a a).natAbs * X3 ≤ (N a a).natAbs * (N a a).natAbs * X3 := by
      have := Nat.mul_le_mul_right ((N a a).natAbs * X3) p1
      rw [Nat.one_mul, ← Nat.mul_assoc] at this
      exact this
    have g2 : (N a a).natAbs * (N a a).natAbs * (4 * X2 + X3) = 4 * (X2 * ((N a a).natAbs * (N a a).natAbs)) + (N a a).natAbs * (N a a).natAbs * X3 := by
      rw [Nat.mul_add, Nat.mul_comm X2, ← Nat.mul_assoc, ← Nat.mul_assoc, Nat.mul_comm _ 4]
    rw [g2]
    omega
  have z1 : ∀ i j l, d2 M i i j l = 0 := fun i j l => by simp only [d2]; grind
  have z2 : ∀ i k j, d2 M i k j j = 0 := fun i k j => by simp only [d2]; grind
  intro i k j l hi hk hj hl
  rcases Nat.lt_or_eq_of_le hi with hi | hi <;> rcases Nat.lt_or_eq_of_le hk with hk | hk <;> rcases Nat.lt_or_eq_of_le hj with hj | hj <;> rcases Nat.lt_or_eq_of_le hl with hl | hl
  · exact hN i k j l hi hk hj hl
  · subst hl; have := hC i k j hi hk hj; rw [d2_cs] at this; omega
  · subst hj; have := hC i k l hi hk hl; omega
  · subst hj hl; rw [z2]; simp
  · subst hk; have := hR i j l hi hj hl; rw [d2_rs] at this; omega
  · subst hk hl; have := hA i j hi hj; rw [d2_rs, d2_cs] at this; omega
  · subst hk hj; have := hA i l hi hl; rw [d2_rs] at this; omega
  · subst hj hl; rw [z2]; simp
  · subst hi; have := hR k j l hk hj hl; omega
  · subst hi hl; have := hA k j hk hj; rw [d2_cs] at this; omega
  · subst hi hj; have := hA k l hk hl; omega
  · subst hj hl; rw [z2]; simp
  · subst hi hk; rw [z1]; simp
  · subst hi hk; rw [z1]; simp
  · subst hi hk; rw [z1]; simp
  · subst hi hk; rw [z1]; simp
/-- entries behind the clearing -/
theorem Clr.B1 (h : Clr a N M) {X2 p : Nat} (h2 : ∀ k l, a < k → a < l → (d2 N a k a l).natAbs ≤ X2) (hp : (N a a).natAbs ≤ p) : ∀ i j, a ≤ i → a ≤ j → (M i j).natAbs ≤ X2 + p := by
  intro i j hi hj
  rcases Nat.lt_or_eq_of_le hi with hi | hi
  · rcases Nat.lt_or_eq_of_le hj with hj | hj
    · have e := h.inn i j hi hj
      have p0 := h.p0
      have e2 : N a a * M i j = d2 N a i a j + M i a * M a j := by simp only [d2]; grind
      refine of_mul p0 e2 ?_
      have q1 := mul_bd (h.r hi) (h.s hj)
      have q2 := h2 i j hi hj
      have q3 : (N a a).natAbs * (N a a).natAbs ≤ (N a a).natAbs * p := Nat.mul_le_mul_left _ hp
      have q4 : X2 ≤ (N a a).natAbs * X2 := Nat.le_mul_of_pos_left _ (by omega)
      rw [Nat.mul_add]
      omega
    · subst hj; have := h.r hi; omega
  · subst hi
    rcases Nat.lt_or_eq_of_le hj with hj | hj
    · have := h.s hj; omega
    · subst hj; rw [h.cc]; omega
/-! 3 by 3 and 4 by 4 -/
theorem Clr.A3 (h : Clr a N M) {i k j l : Nat} (hi : a < i) (hk : a < k) (hj : a < j) (hl : a < l) : d3 M a i k a j l = d3 N a i k a j l := by
  have p0 := h.p0
  have a1 := h.A2 hi hj
  have a2 := h.A2 hk hl
  have a3 := h.A2 hi hl
  have a4 := h.A2 hk hj
  have cc := h.cc
  have e1 : ∀ X : Mx, X a a * d3 X a i k a j l = d2 X a i a j * d2 X a k a l - d2 X a i a l * d2 X a k a j := fun X => by simp only [d3, d2]; grind
  have e2 := e1 M
  rw [a1, a2, a3, a4, cc, ← e1 N] at e2
  exact Int.eq_of_mul_eq_mul_left p0 e2
end
theorem d3_r12 (M : Mx) (i k q j l o : Nat) : d3 M k i q j l o = - d3 M i k q j l o := by simp only [d3, d2]; grind
theorem d3_r13 (M : Mx) (i k q j l o : Nat) : d3 M q k i j l o = - d3 M i k q j l o := by simp only [d3, d2]; grind
theorem d3_r23 (M : Mx) (i k q j l o : Nat) : d3 M i q k j l o = - d3 M i k q j l o := by simp only [d3, d2]; grind
theorem d3_c12 (M : Mx) (i k q j l o : Nat) : d3 M i k q l j o = - d3 M i k q j l o := by simp only [d3, d2]; grind
theorem d3_c13 (M : Mx) (i k q j l o : Nat) : d3 M i k q o l j = - d3 M i k q j l o := by simp only [d3, d2]; grind
theorem d3_c23 (M : Mx) (i k q j l o : Nat) : d3 M i k q j o l = - d3 M i k q j l o := by simp only [d3, d2]; grind
theorem d4_r12 (M : Mx) (i k q t j l o e : Nat) : d4 M k i q t j l o e = - d4 M i k q t j l o e := by simp only [d4, d3, d2]; grind
theorem d4_r13 (M : Mx) (i k q t j l o e : Nat) : d4 M q k i t j l o e = - d4 M i k q t j l o e := by simp only [d4, d3, d2]; grind
theorem d4_r14 (M : Mx) (i k q t j l o e : Nat) : d4 M t k q i j l o e = - d4 M i k q t j l o e := by simp only [d4, d3, d2]; grind
theorem d4_c12 (M : Mx) (i k q t j l o e : Nat) : d4 M i k q t l j o e = - d4 M i k q t j l o e := by simp only [d4, d3, d2]; grind
theorem d4_c13 (M : Mx) (i k q t j l o e : Nat) : d4 M i k q t o l j e = - d4 M i k q t j l o e := by simp only [d4, d3, d2]; grind
theorem d4_c14 (M : Mx) (i k q t j l o e : Nat) : d4 M i k q t e l o j = - d4 M i k q t j l o e := by simp only [d4, d3, d2]; grind
theorem norm3 {a : Nat} {P : Nat → Nat → Nat → Prop} (s12 : ∀ x y z, P x y z → P y x z) (s13 : ∀ x y z, P x y z → P z y x) (hN : ∀ x y z, a < x → a < y → a < z → P x y z) (hA : ∀ y z, a < y → a < z → P a y z) (h0 : ∀ z, P a a z) : ∀ x y z, a ≤ x → a ≤ y → a ≤ z → P x y z := by
  intro x y z hx hy hz
  rcases Nat.lt_or_eq_of_le hx with hx | hx <;> rcases Nat.lt_or_eq_of_le hy with hy | hy <;> rcases Nat.lt_or_eq_of_le hz with hz | hz
  · exact hN x y z hx hy hz
  · subst hz; exact s13 _ _ _ (hA y x hy hx)
  · subst hy; exact s12 _ _ _ (hA x z hx hz)
  · subst hy hz; exact s13 _ _ _ (h0 x)
  · subst hx; exact hA y z hy hz
  · subst hx hz; exact s12 _ _ _ (s13 _ _ _ (h0 y))
  · subst hx hy; exact h0 z
  · subst hx hy hz; exact h0 _
theorem norm4 {a : Nat} {P : Nat → Nat → Nat → Nat → Prop} (s12 : ∀ x y z t, P x y z t → P y x z t) (s13 : ∀ x y z t, P x y z t → P z y x t) (s14 : ∀ x y z t, P x y z t → P t y z x)
    (hN : ∀ x y z t, a < x → a < y → a < z → a < t → P x y z t) (hA : ∀ y z t, a < y → a < z → a < t → P a y z t) (h0 : ∀ z t, P a a z t) : ∀ x y z t, a ≤ x → a ≤ y → a ≤ z → a ≤ t → P x y z t := by
  have hB : ∀ y z t, a ≤ y → a ≤ z → a ≤ t → P a y z t := by
    intro y z t hy hz ht
    rcases Nat.lt_or_eq_of_le hy with hy | hy
    · rcases Nat.lt_or_eq_of_le hz with hz | hz
      · rcases Nat.lt_or_eq_of_le ht with ht | ht
        · exact hA y z t hy hz ht
        · subst ht
          exact s12 _ _ _ _ (s14 _ _ _ _ (s12 _ _ _ _ (s12 _ _ _ _ (s14 _ _ _ _ (s12 _ _ _ _ (s12 _ _ _ _ (s14 _ _ _ _ (s12 _ _ _ _ (h0 z y)))))))))
      · subst hz
        exact s13 _ _ _ _ (s12 _ _ _ _ (s13 _ _ _ _ (h0 y t)))
    · subst hy; exact h0 z t
  intro x y z t hx hy hz ht
  rcases Nat.lt_or_eq_of_le hx with hx' | hx'
  · rcases Nat.lt_or_eq_of_le hy with hy' | hy'
    · rcases Nat.lt_or_eq_of_le hz with hz' | hz'
      · rcases Nat.lt_or_eq_of_le ht with ht' | ht'
        · exact hN x y z t hx' hy' hz' ht'
        · subst ht'; exact s14 _ _ _ _ (hB y z x hy hz hx)
      · subst hz'; exact s13 _ _ _ _ (hB y x t hy hx ht)
    · subst hy'; exact s12 _ _ _ _ (hB x z t hx hz ht)
  · subst hx'; exact hB y z t hy hz ht
section
variable {a : Nat} {N M : Mx}
theorem Clr.R3 (h : Clr a N M) {i k j l o : Nat} (hi : a < i) (hk : a < k) (hj : a < j) (hl : a < l) (ho : a < o) :
    N a a * d3 M a i k j l o = M a j * d3 N a i k a l o - M a l * d3 N a i k a j o + M a o * d3 N a i k a j l := by
  rw [← h.A3 hi hk hl ho, ← h.A3 hi hk hj ho, ← h.A3 hi hk hj hl, ← h.cc]
  simp only [d3, d2]; grind
theorem Clr.C3 (h : Clr a N M) {i k q j l : Nat} (hi : a < i) (hk : a < k) (hq : a < q) (hj : a < j) (hl : a < l) :
    N a a * d3 M i k q a j l = M i a * d3 N a k q a j l - M k a * d3 N a i q a j l + M q a * d3 N a i k a j l := by
  rw [← h.A3 hk hq hj hl, ← h.A3 hi hq hj hl, ← h.A3 hi hk hj hl, ← h.cc]
  simp only [d3, d2]; grind
theorem dod4 (M : Mx) (a i k q j l o : Nat) : M a a * (M a a * d4 M a i k q a j l o) = d3 (fun i j => d2 M a i a j) i k q j l o := by
  simp only [d4, d3, d2]; grind
theorem Clr.A4 (h : Clr a N M) {i k q j l o : Nat} (hi : a < i) (hk : a < k) (hq : a < q) (hj : a < j) (hl : a < l) (ho : a < o) : d4 M a i k q a j l o = d4 N a i k q a j l o := by
  have e1 := dod4 M a i k q j l o
  have e2 := dod4 N a i k q j l o
  have f2 : ∀ x y z w, a < x → a < y → a < z → a < w → d2 (fun i j => d2 M a i a j) x y z w = d2 (fun i j => d2 N a i a j) x y z w := fun x y z w hx hy hz hw => by
    show d2 M a x a z * d2 M a y a w - d2 M a x a w * d2 M a y a z = d2 N a x a z * d2 N a y a w - d2 N a x a w * d2 N a y a z
    rw [h.A2 hx hz, h.A2 hy hw, h.A2 hx hw, h.A2 hy hz]
  have e3 : d3 (fun i j => d2 M a i a j) i k q j l o = d3 (fun i j => d2 N a i a j) i k q j l o := by
    show d2 M a i a j * d2 (fun i j => d2 M a i a j) k q l o - d2 M a i a l * d2 (fun i j => d2 M a i a j) k q j o + d2 M a i a o * d2 (fun i j => d2 M a i a j) k q j l = d2 N a i a j * d2 (fun i j => d2 N a i a j) k q l o - d2 N a i a l * d2 (fun i j => d2 N a i a j) k q j o + d2 N a i a o * d2 (fun i j => d2 N a i a j) k q j l
    rw [f2 k q l o hk hq hl ho, f2 k q j o hk hq hj ho, f2 k q j l hk hq hj hl, h.A2 hi hj, h.A2 hi hl, h.A2 hi ho]
  rw [e3, ← e2, h.cc] at e1
  exact Int.eq_of_mul_eq_mul_left h.p0 (Int.eq_of_mul_eq_mul_left h.p0 e1)
theorem rank1 (D : Mx) (r s : Nat → Int) (i k q j l o : Nat) : d3 (fun x y => D x y + r x * s y) i k q j l o = d3 D i k q j l o + ((r i * s j) * d2 D k q l o - (r i * s l) * d2 D k q j o + (r i * s o) * d2 D k q j l
      - (r k * s j) * d2 D i q l o + (r k * s l) * d2 D i q j o - (r k * s o) * d2 D i q j l + (r q * s j) * d2 D i k l o - (r q * s l) * d2 D i k j o + (r q * s o) * d2 D i k j l) := by
  simp only [d3, d2]; grind
theorem Clr.N3 (h : Clr a N M) {i k q j l o : Nat} (hi : a < i) (hk : a < k) (hq : a < q) (hj : a < j) (hl : a < l) (ho : a < o) :
    N a a * (N a a * d3 M i k q j l o) = N a a * d4 N a i k q a j l o + ((M i a * M a j) * d3 N a k q a l o - (M i a * M a l) * d3 N a k q a j o + (M i a * M a o) * d3 N a k q a j l
      - (M k a * M a j) * d3 N a i q a l o + (M k a * M a l) * d3 N a i q a j o - (M k a * M a o) * d3 N a i q a j l
      + (M q a * M a j) * d3 N a i k a l o - (M q a * M a l) * d3 N a i k a j o + (M q a * M a o) * d3 N a i k a j l) := by
  have p0 := h.p0
  have e0 := rank1 (fun i j => d2 N a i a j) (fun i => M i a) (fun j => M a j) i k q j l o
  have e1 : d3 (fun x y => d2 N a x a y + M x a * M a y) i k q j l o = d3 (fun x y => N a a * M x y) i k q j l o := by
    have g : ∀ x y, a < x → a < y → d2 N a x a y + M x a * M a y = N a a * M x y := fun x y hx hy => by
      have := h.inn x y hx hy
      simp only [d2]; grind
    simp only [d3, d2.eq_1 (fun x y => d2 N a x a y + M x a * M a y), d2.eq_1 (fun x y => N a a * M x y), g i j hi hj, g i l hi hl, g i o hi ho, g k j hk hj, g k l hk hl, g k o hk ho, g q j hq hj, g q l hq hl, g q o hq ho]
  have e2 : d3 (fun x y => N a a * M x y) i k q j l o = N a a * (N a a * (N a a * d3 M i k q j l o)) := by simp only [d3, d2]; grind
  have e3 := dod4 N a i k q j l o
  have m : ∀ x y z w, d2 (fun i j => d2 N a i a j) x y z w = N a a * d3 N a x y a z w := fun x y z w => by simp only [d3, d2]; grind
  rw [e1, e2, ← e3] at e0
  simp only [m] at e0
  refine Int.eq_of_mul_eq_mul_left p0 ?_
  rw [e0]
  generalize d4 N a i k q a j l o = X
  generalize d3 N a k q a l o = Y1
  generalize d3 N a k q a j o = Y2
  generalize d3 N a k q a j l = Y3
  generalize d3 N a i q a l o = Y4
  generalize d3 N a i q a j o = Y5
  generalize d3 N a i q a j l = Y6
  generalize d3 N a i k a l o = Y7
  generalize d3 N a i k a j o = Y8
  generalize d3 N a i k a j l = Y9
  grind
theorem sum9 {x u1 u2 u3 u4 u5 u6 u7 u8 u9 : Int} {A B : Nat} (h0 : x.natAbs ≤ A) (h1 : u1.natAbs ≤ B) (h2 : u2.natAbs ≤ B) (h3 : u3.natAbs ≤ B) (h4 : u4.natAbs ≤ B) (h5 : u5.natAbs ≤ B) (h6 : u6.natAbs ≤ B) (h7 : u7.natAbs ≤ B) (h8 : u8.natAbs ≤ B) (h9 : u9.natAbs ≤ B) :
    (x + (u1 - u2 + u3 - u4 + u5 - u6 + u7 - u8 + u9)).natAbs ≤ 9 * B + A := by
  have a1 := Int.natAbs_add_le x (u1 - u2 + u3 - u4 + u5 - u6 + u7 - u8 + u9)
  have a2 := Int.natAbs_add_le (u1 - u2 + u3 - u4 + u5 - u6 + u7 - u8) u9
  have a3 := Int.natAbs_sub_le (u1 - u2 + u3 - u4 + u5 - u6 + u7) u8
  have a4 := Int.natAbs_add_le (u1 - u2 + u3 - u4 + u5 - u6) u7
  have a5 := Int.natAbs_sub_le (u1 - u2 + u3 - u4 + u5) u6
  have a6 := Int.natAbs_add_le (u1 - u2 + u3 - u4) u5
  have a7 := Int.natAbs_sub_le (u1 - u2 + u3) u4
  have a8 := Int.natAbs_add_le (u1 - u2) u3
  have a9 := Int.natAbs_sub_le u1 u2
  generalize (u1 - u2 + u3 - u4 + u5 - u6 + u7 - u8 + u9).natAbs = w9 at *
  generalize (u1 - u2 + u3 - u4 + u5 - u6 + u7 - u8).natAbs = w8 at *
  generalize (u1 - u2 + u3 - u4 + u5 - u6 + u7).natAbs = w7 at *
  generalize (u1 - u2 + u3 - u4 + u5 - u6).natAbs = w6 at *
  generalize (u1 - u2 + u3 - u4 + u5).natAbs = w5 at *
  generalize (u1 - u2 + u3 - u4).natAbs = w4 at *
  generalize (u1 - u2 + u3).natAbs = w3 at *
  generalize (u1 - u2).natAbs = w2 at *
  generalize (x + _).natAbs = w0 at *
  generalize x.natAbs = v0 at *
  generalize u1.natAbs = v1 at *
  generalize u2.natAbs = v2 at *
  generalize u3.natAbs = v3 at *
  generalize u4.natAbs = v4 at *
  generalize u5.natAbs = v5 at *
  generalize u6.natAbs = v6 at *
  generalize u7.natAbs = v7 at *
  generalize u8.natAbs = v8 at *
  generalize u9.natAbs = v9 at *
  omega
/-- how 3 by 3 minors grow -/
theorem Clr.B3 (h : Clr a N M) {X3 X4 : Nat} (h3 : ∀ i k j l, a < i → a < k → a < j → a < l → (d3 N a i k a j l).natAbs ≤ X3) (h4 : ∀ i k q j l o, a < i → a < k → a < q → a < j → a < l → a < o → (d4 N a i k q a j l o).natAbs ≤ X4) :
    ∀ i k q j l o, a ≤ i → a ≤ k → a ≤ q → a ≤ j → a ≤ l → a ≤ o → (d3 M i k q j l o).natAbs ≤ 9 * X3 + X4 := by
  have p0 := h.p0
  have p1 : 1 ≤ (N a a).natAbs := by omega
  have hR : ∀ i k, a < i → a < k → ∀ j l o, a < j → a < l → a < o → (d3 M a i k j l o).natAbs ≤ 9 * X3 := fun i k hi hk j l o hj hl ho => by
    have q : (d3 M a i k j l o).natAbs ≤ 3 * X3 := by
      refine of_mul p0 (h.R3 hi hk hj hl ho) ?_
      have q1 := mul_bd (h.s hj) (h3 i k l o hi hk hl ho)
      have q2 := mul_bd (h.s hl) (h3 i k j o hi hk hj ho)
      have q3 := mul_bd (h.s ho) (h3 i k j l hi hk hj hl)
      rw [show (N a a).natAbs * (3 * X3) = 3 * ((N a a).natAbs * X3) by rw [Nat.mul_left_comm]]
      omega
    omega
  have hC : ∀ i k q, a < i → a < k → a < q → ∀ j l, a < j → a < l → (d3 M i k q a j l).natAbs ≤ 9 * X3 := fun i k q hi hk hq j l hj hl => by
    have q : (d3 M i k q a j l).natAbs ≤ 3 * X3 := by
      refine of_mul p0 (h.C3 hi hk hq hj hl) ?_
      have q1 := mul_bd (h.r hi) (h3 k q j l hk hq hj hl)
      have q2 := mul_bd (h.r hk) (h3 i q j l hi hq hj hl)
      have q3 := mul_bd (h.r hq) (h3 i k j l hi hk hj hl)
      rw [show (N a a).natAbs * (3 * X3) = 3 * ((N a a).natAbs * X3) by rw [Nat.mul_left_comm]]
      omega
    omega
  have hN : ∀ i k q, a < i → a < k → a < q → ∀ j l o, a < j → a < l → a < o → (d3 M i k q j l o).natAbs ≤ 9 * X3 + X4 := fun i k q hi hk hq j l o hj hl ho => by
    have e := h.N3 hi hk hq hj hl ho
    have T : ∀ {x y : Nat} {w : Int}, a < x → a < y → w.natAbs ≤ X3 → ((M x a * M a y) * w).natAbs ≤ (N a a).natAbs * (N a a).natAbs * X3 := fun hx hy hw => mul_bd (mul_bd (h.r hx) (h.s hy)) hw
    have t1 := T hi hj (h3 k q l o hk hq hl ho)
    have t2 := T hi hl (h3 k q j o hk hq hj ho)
    have t3 := T hi ho (h3 k q j l hk hq hj hl)
    have t4 := T hk hj (h3 i q l o hi hq hl ho)
    have t5 := T hk hl (h3 i q j o hi hq hj ho)
    have t6 := T hk ho (h3 i q j l hi hq hj hl)
    have t7 := T hq hj (h3 i k l o hi hk hl ho)
    have t8 := T hq hl (h3 i k j o hi hk hj ho)
    have t9 := T hq ho (h3 i k j l hi hk hj hl)
    have t0 := mul_bd (Nat.le_refl (N a a).natAbs) (h4 i k q j l o hi hk hq hj hl ho)
    rw [← Int.mul_assoc] at e
    refine of_mul (p := N a a * N a a) (by intro z; rcases Int.mul_eq_zero.mp z with z | z <;> exact p0 z) e ?_
    rw [Int.natAbs_mul]
    have g1 : (N a a).natAbs * X4 ≤ (N a a).natAbs * (N a a).natAbs * X4 := by
      have := Nat.mul_le_mul_right ((N a a).natAbs * X4) p1
      rw [Nat.one_mul, ← Nat.mul_assoc] at this
      exact this
    rw [Nat.mul_add, Nat.mul_left_comm _ 9]
    exact sum9 (Nat.le_trans t0 g1) t1 t2 t3 t4 t5 t6 t7 t8 t9
  have z1 : ∀ i k j l o, d3 M i i k j l o = 0 := fun i k j l o => by simp only [d3, d2]; grind
  have z2 : ∀ i k q j o, d3 M i k q j j o = 0 := fun i k q j o => by simp only [d3, d2]; grind
  have cols : ∀ i k q, ((∀ j l o, a < j → a < l → a < o → (d3 M i k q j l o).natAbs ≤ 9 * X3 + X4) ∧ ∀ l o, a < l → a < o → (d3 M i k q a l o).natAbs ≤ 9 * X3 + X4) → ∀ j l o, a ≤ j → a ≤ l → a ≤ o → (d3 M i k q j l o).natAbs ≤ 9 * X3 + X4 := fun i k q hh =>
    norm3 (fun x y z hp => by rw [d3_c12]; omega) (fun x y z hp => by rw [d3_c13]; omega) hh.1 hh.2 (fun z => by rw [z2]; simp)
  have rows : ∀ i k q, a ≤ i → a ≤ k → a ≤ q → ∀ j l o, a ≤ j → a ≤ l → a ≤ o → (d3 M i k q j l o).natAbs ≤ 9 * X3 + X4 :=
    norm3 (fun x y z hp j l o hj hl ho => by rw [d3_r12]; have := hp j l o hj hl ho; omega) (fun x y z hp j l o hj hl ho => by rw [d3_r13]; have := hp j l o hj hl ho; omega)
      (fun i k q hi hk hq => cols i k q ⟨hN i k q hi hk hq, fun l o hl ho => by have := hC i k q hi hk hq l o hl ho; omega⟩)
      (fun i k hi hk => cols a i k ⟨fun j l o hj hl ho => by have := hR i k hi hk j l o hj hl ho; omega, fun l o hl ho => by rw [h.A3 hi hk hl ho]; have := h3 i k l o hi hk hl ho; omega⟩)
      (fun z j l o _ _ _ => by rw [z1]; simp)
  exact fun i k q j l o hi hk hq hj hl ho => rows i k q hi hk hq j l o hj hl ho
/-- 4 by 4 minors stay, in a table of four rows and columns -/
theorem Clr.B4 (h : Clr 0 N M) {X4 : Nat} (zr : ∀ i j, 4 ≤ i → M i j = 0) (zc : ∀ i j, 4 ≤ j → M i j = 0) (h4 : ∀ i k q j l o, 0 < i → 0 < k → 0 < q → 0 < j → 0 < l → 0 < o → (d4 N 0 i k q 0 j l o).natAbs ≤ X4) :
    ∀ i k q t j l o e, (d4 M i k q t j l o e).natAbs ≤ X4 := by
  have rz : ∀ i k q t j l o e, (∀ y, M i y = 0) → d4 M i k q t j l o e = 0 := fun i k q t j l o e hz => by simp only [d4, hz]; grind
  have cz : ∀ i k q t j l o e, (∀ y, M y j = 0) → d4 M i k q t j l o e = 0 := fun i k q t j l o e hz => by simp only [d4, d3, d2, hz]; grind
  have rr12 : ∀ i q t j l o e, d4 M i i q t j l o e = 0 := fun i q t j l o e => by simp only [d4, d3, d2]; grind
  have rr23 : ∀ i q t j l o e, d4 M t i i q j l o e = 0 := fun i q t j l o e => by simp only [d4, d3, d2]; grind
  have rr34 : ∀ i q t j l o e, d4 M t q i i j l o e = 0 := fun i q t j l o e => by simp only [d4, d3, d2]; grind
  have rr13 : ∀ i q t j l o e, d4 M i q i t j l o e = 0 := fun i q t j l o e => by simp only [d4, d3, d2]; grind
  have rr14 : ∀ i q t j l o e, d4 M i q t i j l o e = 0 := fun i q t j l o e => by simp only [d4, d3, d2]; grind
  have rr24 : ∀ i q t j l o e, d4 M t i q i j l o e = 0 := fun i q t j l o e => by simp only [d4, d3, d2]; grind
  have cc12 : ∀ i k q t j o e, d4 M i k q t j j o e = 0 := fun i k q t j o e => by simp only [d4, d3, d2]; grind
  have cc13 : ∀ i k q t j o e, d4 M i k q t j o j e = 0 := fun i k q t j o e => by simp only [d4, d3, d2]; grind
  have cc14 : ∀ i k q t j o e, d4 M i k q t j o e j = 0 := fun i k q t j o e => by simp only [d4, d3, d2]; grind
  have cc23 : ∀ i k q t j o e, d4 M i k q t o j j e = 0 := fun i k q t j o e => by simp only [d4, d3, d2]; grind
  have cc24 : ∀ i k q t j o e, d4 M i k q t o j e j = 0 := fun i k q t j o e => by simp only [d4, d3, d2]; grind
  have cc34 : ∀ i k q t j o e, d4 M i k q t o e j j = 0 := fun i k q t j o e => by simp only [d4, d3, d2]; grind
  have cols : ∀ i k q, 0 < i → 0 < k → 0 < q → ∀ j l o e, (d4 M 0 i k q j l o e).natAbs ≤ X4 := fun i k q hi hk hq j l o e =>
    norm4 (a := 0) (P := fun j l o e => (d4 M 0 i k q j l o e).natAbs ≤ X4) (fun x y z t hp => by rw [d4_c12]; omega) (fun x y z t hp => by rw [d4_c13]; omega) (fun x y z t hp => by rw [d4_c14]; omega)
      (fun x y z t hx hy hz ht => by
        by_cases g1 : 4 ≤ x
        · rw [cz _ _ _ _ _ _ _ _ fun i => zc i x g1]; simp
        by_cases g2 : 4 ≤ y
        · rw [d4_c12, cz _ _ _ _ _ _ _ _ fun i => zc i y g2]; simp
        by_cases g3 : 4 ≤ z
        · rw [d4_c13, cz _ _ _ _ _ _ _ _ fun i => zc i z g3]; simp
        by_cases g4 : 4 ≤ t
        · rw [d4_c14, cz _ _ _ _ _ _ _ _ fun i => zc i t g4]; simp
        have : x = y ∨ x = z ∨ x = t ∨ y = z ∨ y = t ∨ z = t := by omega
        rcases this with g | g | g | g | g | g <;> subst g
        · rw [cc12]; simp
        · rw [cc13]; simp
        · rw [cc14]; simp
        · rw [cc23]; simp
        · rw [cc24]; simp
        · rw [cc34]; simp)
      (fun y z t hy hz ht => by show (d4 M 0 i k q 0 y z t).natAbs ≤ X4; rw [h.A4 hi hk hq hy hz ht]; exact h4 i k q y z t hi hk hq hy hz ht) (fun z t => by show (d4 M 0 i k q 0 0 z t).natAbs ≤ X4; rw [cc12]; simp) j l o e (Nat.zero_le _) (Nat.zero_le _) (Nat.zero_le _) (Nat.zero_le _)
  exact fun i k q t => norm4 (a := 0) (P := fun i k q t => ∀ j l o e, (d4 M i k q t j l o e).natAbs ≤ X4) (fun x y z t hp j l o e => by rw [d4_r12]; have := hp j l o e; omega) (fun x y z t hp j l o e => by rw [d4_r13]; have := hp j l o e; omega) (fun x y z t hp j l o e => by rw [d4_r14]; have := hp j l o e; omega)
      (fun x y z t hx hy hz ht j l o e => by
        by_cases g1 : 4 ≤ x
        · rw [rz _ _ _ _ _ _ _ _ fun j => zr x j g1]; simp
        by_cases g2 : 4 ≤ y
        · rw [d4_r12, rz _ _ _ _ _ _ _ _ fun j => zr y j g2]; simp
        by_cases g3 : 4 ≤ z
        · rw [d4_r13, rz _ _ _ _ _ _ _ _ fun j => zr z j g3]; simp
        by_cases g4 : 4 ≤ t
        · rw [d4_r14, rz _ _ _ _ _ _ _ _ fun j => zr t j g4]; simp
        have : x = y ∨ x = z ∨ x = t ∨ y = z ∨ y = t ∨ z = t := by omega
        rcases this with g | g | g | g | g | g <;> subst g
        · rw [rr12]; simp
        · rw [rr13]; simp
        · rw [rr14]; simp
        · rw [rr23]; simp
        · rw [rr24]; simp
        · rw [rr34]; simp)
      (fun y z t hy hz ht j l o e => cols y z t hy hz ht j l o e) (fun z t j l o e => by rw [rr12]; simp) i k q t (Nat.zero_le _) (Nat.zero_le _) (Nat.zero_le _) (Nat.zero_le _)
end
end TM
/-! Remainders near the divisor; three inner pivots one behind the other are not all great. -/
namespace TM
theorem fm_pos {a z k : Int} (hz : 0 < z) (h0 : 0 ≤ a - k * z) (h1 : a - k * z < z) : a.fmod z = a - k * z := by
  rw [Int.fmod_eq_emod_of_nonneg _ (Int.le_of_lt hz)]
  have e : a % z = (a - k * z) % z := by rw [Int.sub_mul_emod_self_right]
  rw [e, Int.emod_eq_of_lt h0 h1]
theorem fm_neg {a z k : Int} (hz : z < 0) (h0 : a - k * z ≤ 0) (h1 : z < a - k * z) : a.fmod z = a - k * z := by
  have h := fm_pos (a := -a) (z := -z) (k := k) (by omega) (by rw [Int.mul_neg]; omega) (by rw [Int.mul_neg]; omega)
  rw [Int.neg_fmod_neg, Int.mul_neg] at h
  omega
theorem fm_pp {a z : Int} (h1 : z < a) (h2 : a < 2 * z) : a.fmod z = a - z := by
  have := fm_pos (a := a) (z := z) (k := 1) (by omega) (by omega) (by omega)
  omega
theorem fm_nn {a z : Int} (h1 : a < z) (h2 : 2 * z < a) : a.fmod z = a - z := by
  have := fm_neg (a := a) (z := z) (k := 1) (by omega) (by omega) (by omega)
  omega
theorem fm_pn {a z : Int} (h1 : -z < a) (h2 : a < -(2 * z)) (hz : z < 0) : a.fmod z = a + 2 * z := by
  have := fm_neg (a := a) (z := z) (k := -2) (by omega) (by omega) (by omega)
  omega
theorem fm_np {a z : Int} (h1 : a < -z) (h2 : -(2 * z) < a) (hz : 0 < z) : a.fmod z = a + 2 * z := by
  have := fm_pos (a := a) (z := z) (k := -2) (by omega) (by omega) (by omega)
  omega
theorem fm_self (z : Int) : z.fmod z = 0 := Int.fmod_self
/-- nothing, or great against P -/
def Gt (P e : Int) : Prop := e = 0 ∨ 15 * P < 16 * e ∨ 16 * e < -(15 * P)
/-- one sign, a little greater: a small remainder -/
theorem sm_same {P a z : Int} (hP : 0 < P) (hz : 15 * P < 16 * z ∨ 16 * z < -(15 * P)) (h : (0 < z ∧ z < a ∧ 16 * a ≤ 29 * P) ∨ (z < 0 ∧ a < z ∧ -(29 * P) ≤ 16 * a)) : ¬ Gt P (a.fmod z) := by
  rcases h with ⟨h1, h2, h3⟩ | ⟨h1, h2, h3⟩
  · rw [fm_pp h2 (by omega)]
    unfold Gt
    omega
  · rw [fm_nn h2 (by omega)]
    unfold Gt
    omega
theorem mul_cancel {p x y : Int} (hp : p ≠ 0) (h : p * x = p * y) : x = y := Int.eq_of_mul_eq_mul_left hp h
/-- a state with the centre P, its cross s1 s2 / r1 r2 -/
structure S0 (P s1 s2 r1 r2 z x u v : Int) : Prop where
  P0 : 0 < P
  s1a : 0 ≤ s1
  s1b : s1 < P
  s2a : 0 ≤ s2
  s2b : s2 < P
  r1a : 0 ≤ r1
  r1b : r1 < P
  r2a : 0 ≤ r2
  r2b : r2 < P
  zg : 15 * P < 16 * z ∨ 16 * z < -(15 * P)
  zP : z.natAbs < P.natAbs
  zr : r1 ≠ 0 → z.natAbs < r1.natAbs
  zs : s1 ≠ 0 → z.natAbs < s1.natAbs
  zr2 : r2 ≠ 0 → z.natAbs ≤ r2.natAbs
  zs2 : s2 ≠ 0 → z.natAbs ≤ s2.natAbs
  zx : x ≠ 0 → z.natAbs ≤ x.natAbs
  zu : u ≠ 0 → z.natAbs ≤ u.natAbs
/-- behind the clearing by z -/
structure S1 (P s1 s2 r1 r2 z x u v ρ σ x' u' α s' r' y : Int) : Prop where
  eρ : ρ = r1.fmod z
  eσ : σ = s1.fmod z
  ex : x' = x.fmod z
  eu : u' = u.fmod z
  eα : z * α = z * P - s1 * r1 + σ * ρ
  es : z * s' = z * s2 - s1 * x + σ * x'
  er : z * r' = z * r2 - u * r1 + u' * ρ
  gρ : Gt P ρ
  gσ : Gt P σ
  gx : Gt P x'
  gu : Gt P u'
section
variable {P s1 s2 r1 r2 z x u v ρ σ x' u' α s' r' y : Int}
/-- what r1 becomes -/
theorem S0.cross (h : S0 P s1 s2 r1 r2 z x u v) (gρ : Gt P (r1.fmod z)) : (r1 = 0 ∧ r1.fmod z = 0) ∨ (z < 0 ∧ -z < r1 ∧ r1.fmod z = r1 + 2 * z) := by
  obtain ⟨h1, h2, h3, h4, h5, h6, h7, h8, h9, h10, h11, h12, h13, h14, h15, h16, h17⟩ := h
  by_cases h0 : r1 = 0
  · left
    exact ⟨h0, by rw [h0, Int.zero_fmod]⟩
  · right
    have hz := h12 h0
    by_cases hp : 0 < z
    · exact absurd gρ (sm_same h1 h10 (.inl ⟨hp, by omega, by omega⟩))
    · have hn : z < 0 := by omega
      exact ⟨hn, by omega, fm_pn (by omega) (by omega) hn⟩
theorem S0.crossS (h : S0 P s1 s2 r1 r2 z x u v) (gσ : Gt P (s1.fmod z)) : (s1 = 0 ∧ s1.fmod z = 0) ∨ (z < 0 ∧ -z < s1 ∧ s1.fmod z = s1 + 2 * z) := by
  obtain ⟨h1, h2, h3, h4, h5, h6, h7, h8, h9, h10, h11, h12, h13, h14, h15, h16, h17⟩ := h
  by_cases h0 : s1 = 0
  · left
    exact ⟨h0, by rw [h0, Int.zero_fmod]⟩
  · right
    have hz := h13 h0
    by_cases hp : 0 < z
    · exact absurd gσ (sm_same h1 h10 (.inl ⟨hp, by omega, by omega⟩))
    · have hn : z < 0 := by omega
      exact ⟨hn, by omega, fm_pn (by omega) (by omega) hn⟩
theorem S1.alpha (h : S0 P s1 s2 r1 r2 z x u v) (g : S1 P s1 s2 r1 r2 z x u v ρ σ x' u' α s' r' y) : P ≤ α ∧ 16 * α ≤ 20 * P := by
  have z0 : z ≠ 0 := by have := h.zg; have := h.P0; omega
  have hP := h.P0
  have hz := h.zg
  have a1 := h.s1b
  have a2 := h.r1b
  rcases h.cross (by rw [← g.eρ]; exact g.gρ) with ⟨q1, q2⟩ | ⟨q0, q1, q2⟩
  · have e := g.eα
    rw [g.eρ, q2, q1] at e
    have : α = P := mul_cancel z0 (by rw [e]; simp)
    omega
  · rcases h.crossS (by rw [← g.eσ]; exact g.gσ) with ⟨t1, t2⟩ | ⟨t0, t1, t2⟩
    · have e := g.eα
      rw [g.eσ, t2, t1] at e
      have : α = P := mul_cancel z0 (by rw [e]; simp)
      omega
    · have e := g.eα
      rw [g.eσ, t2, g.eρ, q2] at e
      have : α = P + 2 * s1 + 2 * r1 + 4 * z := mul_cancel z0 (by rw [e]; grind)
      omega
/-- what s2 becomes -/
theorem S1.sp (h : S0 P s1 s2 r1 r2 z x u v) (g : S1 P s1 s2 r1 r2 z x u v ρ σ x' u' α s' r' y) : (s1 = 0 ∧ σ = 0 ∧ s' = s2) ∨ (z < 0 ∧ -z < s1 ∧ σ = s1 + 2 * z ∧ s' = s2 - x.fdiv z * s1 + 2 * x') := by
  have z0 : z ≠ 0 := by have := h.zg; have := h.P0; omega
  rcases h.crossS (by rw [← g.eσ]; exact g.gσ) with ⟨t1, t2⟩ | ⟨t0, t1, t2⟩
  · left
    have e := g.es
    rw [g.eσ, t2, t1] at e
    exact ⟨t1, by rw [g.eσ, t2], mul_cancel z0 (by rw [e]; simp)⟩
  · right
    have e := g.es
    have ed := Int.mul_fdiv_add_fmod x z
    rw [g.eσ, t2] at e
    refine ⟨t0, t1, by rw [g.eσ, t2], mul_cancel z0 ?_⟩
    rw [e]
    have ex := g.ex
    grind
theorem S1.rp (h : S0 P s1 s2 r1 r2 z x u v) (g : S1 P s1 s2 r1 r2 z x u v ρ σ x' u' α s' r' y) : (r1 = 0 ∧ ρ = 0 ∧ r' = r2) ∨ (z < 0 ∧ -z < r1 ∧ ρ = r1 + 2 * z ∧ r' = r2 - u.fdiv z * r1 + 2 * u') := by
  have z0 : z ≠ 0 := by have := h.zg; have := h.P0; omega
  rcases h.cross (by rw [← g.eρ]; exact g.gρ) with ⟨t1, t2⟩ | ⟨t0, t1, t2⟩
  · left
    have e := g.er
    rw [g.eρ, t2, t1] at e
    exact ⟨t1, by rw [g.eρ, t2], mul_cancel z0 (by rw [e]; simp)⟩
  · right
    have e := g.er
    have ed := Int.mul_fdiv_add_fmod u z
    rw [g.eρ, t2] at e
    refine ⟨t0, t1, by rw [g.eρ, t2], mul_cancel z0 ?_⟩
    rw [e]
    have eu := g.eu
    grind
/-- the next great inner pivot is not at s' -/
theorem no_s (h : S0 P s1 s2 r1 r2 z x u v) (g : S1 P s1 s2 r1 r2 z x u v ρ σ x' u' α s' r' y) (hy : s'.natAbs < z.natAbs) (gy : 15 * P < 16 * s' ∨ 16 * s' < -(15 * P)) (hσ : σ ≠ 0 → s'.natAbs < σ.natAbs) (k1 : Gt P (α.fmod s')) (k2 : Gt P (σ.fmod s')) : False := by
  have hP := h.P0
  have hz := h.zP
  obtain ⟨a1, a2⟩ := S1.alpha h g
  rcases S1.sp h g with ⟨t1, t2, t3⟩ | ⟨t0, t1, t2, t3⟩
  · have := h.zs2
    omega
  · have hs := hσ (by have := h.s1b; have := h.zg; omega)
    have s1b := h.s1b
    by_cases hp : 0 < s'
    · exact sm_same hP gy (.inl ⟨hp, by omega, by omega⟩) k1
    · exact sm_same hP gy (.inr ⟨by omega, by omega, by omega⟩) k2
theorem no_r (h : S0 P s1 s2 r1 r2 z x u v) (g : S1 P s1 s2 r1 r2 z x u v ρ σ x' u' α s' r' y) (hy : r'.natAbs < z.natAbs) (gy : 15 * P < 16 * r' ∨ 16 * r' < -(15 * P)) (hρ : ρ ≠ 0 → r'.natAbs < ρ.natAbs) (k1 : Gt P (α.fmod r')) (k2 : Gt P (ρ.fmod r')) : False := by
  have hP := h.P0
  have hz := h.zP
  obtain ⟨a1, a2⟩ := S1.alpha h g
  rcases S1.rp h g with ⟨t1, t2, t3⟩ | ⟨t0, t1, t2, t3⟩
  · have := h.zr2
    omega
  · have hs := hρ (by have := h.r1b; have := h.zg; omega)
    have r1b := h.r1b
    by_cases hp : 0 < r'
    · exact sm_same hP gy (.inl ⟨hp, by omega, by omega⟩) k1
    · exact sm_same hP gy (.inr ⟨by omega, by omega, by omega⟩) k2
end
end TM
namespace TM
/-- the third pivot w, too, is great and inner -/
structure S2 (P z ρ σ x' u' α s' r' y s'' r'' x'' u'' w σ'' ρ'' : Int) : Prop where
  yg : 15 * P < 16 * y ∨ 16 * y < -(15 * P)
  yz : y.natAbs < z.natAbs
  yx : x' ≠ 0 → y.natAbs < x'.natAbs
  yu : u' ≠ 0 → y.natAbs < u'.natAbs
  ys : s' ≠ 0 → y.natAbs ≤ s'.natAbs
  yr : r' ≠ 0 → y.natAbs ≤ r'.natAbs
  yσ : σ ≠ 0 → y.natAbs ≤ σ.natAbs
  yρ : ρ ≠ 0 → y.natAbs ≤ ρ.natAbs
  fail : ¬ (σ = 0 ∧ ρ = 0 ∧ x' = 0 ∧ u' = 0)
  es : s'' = s'.fmod y
  er : r'' = r'.fmod y
  ex : x'' = x'.fmod y
  eu : u'' = u'.fmod y
  ew : y * w = y * α - s' * r' + s'' * r''
  eσ : y * σ'' = y * σ - s' * u' + s'' * u''
  eρ : y * ρ'' = y * ρ - x' * r' + x'' * r''
  gs : Gt P s''
  gr : Gt P r''
  gx : Gt P x''
  gu : Gt P u''
  wg : 15 * P < 16 * w ∨ 16 * w < -(15 * P)
  wy : w.natAbs < y.natAbs
  ws : s'' ≠ 0 → w.natAbs < s''.natAbs
  wr : r'' ≠ 0 → w.natAbs < r''.natAbs
  ks : Gt P (s''.fmod w)
  kr : Gt P (r''.fmod w)
  kσ : Gt P (σ''.fmod w)
  kρ : Gt P (ρ''.fmod w)
theorem fm_rng {a z : Int} (h : z ≠ 0) : (0 < z ∧ 0 ≤ a.fmod z ∧ a.fmod z < z) ∨ (z < 0 ∧ a.fmod z ≤ 0 ∧ z < a.fmod z) := by
  rcases Int.lt_or_lt_of_ne h with h0 | h0
  · right
    have h1 := Int.fmod_nonneg_of_pos (-a) (show 0 < -z by omega)
    have h2 := Int.fmod_lt_of_pos (-a) (show 0 < -z by omega)
    rw [Int.neg_fmod_neg] at h1 h2
    omega
  · left
    exact ⟨h0, Int.fmod_nonneg_of_pos a h0, Int.fmod_lt_of_pos a h0⟩
section
variable {P s1 s2 r1 r2 z x u v ρ σ x' u' α s' r' y s'' r'' x'' u'' w σ'' ρ'' : Int}
/-- a positive y is not s' -/
theorem ne_y (h : S0 P s1 s2 r1 r2 z x u v) (hs : (s1 = 0 ∧ s' = s2) ∨ (z < 0 ∧ -z < s1 ∧ s' = s2 - x.fdiv z * s1 + 2 * x')) (ex : x' = x.fmod z) (yg : 15 * P < 16 * y) (yz : y.natAbs < z.natAbs) (yx : x' ≠ 0 → y.natAbs < x'.natAbs) (e : s' = y) : False := by
  obtain ⟨h1, h2, h3, h4, h5, h6, h7, h8, h9, h10, h11, h12, h13, h14, h15, h16, h17⟩ := h
  rcases hs with ⟨t1, t3⟩ | ⟨t0, t1, t3⟩
  · omega
  · have ed := Int.mul_fdiv_add_fmod x z
    rw [← ex] at ed
    have hr := fm_rng (a := x) (z := z) (by omega)
    rw [← ex] at hr
    generalize x.fdiv z = f at *
    by_cases f1 : 1 ≤ f
    · have : s1 ≤ f * s1 := by have := Int.mul_le_mul_of_nonneg_right f1 (show 0 ≤ s1 by omega); omega
      omega
    by_cases f2 : f ≤ -3
    · have : f * s1 ≤ -3 * s1 := Int.mul_le_mul_of_nonneg_right f2 (show 0 ≤ s1 by omega)
      omega
    have : f = 0 ∨ f = -1 ∨ f = -2 := by omega
    rcases this with q | q | q <;> subst q
    · rw [Int.mul_zero] at ed
      omega
    · omega
    · omega
/-- a negative s' that is not too great comes without a remainder of x -/
theorem neg_s (h : S0 P s1 s2 r1 r2 z x u v) (hs : (s1 = 0 ∧ s' = s2) ∨ (z < 0 ∧ -z < s1 ∧ s' = s2 - x.fdiv z * s1 + 2 * x')) (ex : x' = x.fmod z) (yg : 15 * P < 16 * y) (yx : x' ≠ 0 → y.natAbs < x'.natAbs) (e : s' < 0) (e2 : -(29 * P) < 16 * s') : x' = 0 := by
  obtain ⟨h1, h2, h3, h4, h5, h6, h7, h8, h9, h10, h11, h12, h13, h14, h15, h16, h17⟩ := h
  rcases hs with ⟨t1, t3⟩ | ⟨t0, t1, t3⟩
  · omega
  · have ed := Int.mul_fdiv_add_fmod x z
    rw [← ex] at ed
    have hr := fm_rng (a := x) (z := z) (by omega)
    rw [← ex] at hr
    generalize x.fdiv z = f at *
    by_cases f1 : 1 ≤ f
    · have : s1 ≤ f * s1 := by have := Int.mul_le_mul_of_nonneg_right f1 (show 0 ≤ s1 by omega); omega
      omega
    by_cases f2 : f ≤ -2
    · have : f * s1 ≤ -2 * s1 := Int.mul_le_mul_of_nonneg_right f2 (show 0 ≤ s1 by omega)
      omega
    have : f = 0 ∨ f = -1 := by omega
    rcases this with q | q <;> subst q
    · rw [Int.mul_zero] at ed
      omega
    · omega
theorem mul_lt_sq {P a b : Int} {m n : Int} (hP : 0 < P) (ha : m * P < 16 * a) (hb : n * P < 16 * b) (hm : 0 ≤ m) (hn : 0 ≤ n) : m * n * (P * P) < 256 * (a * b) := by
  have h1 : 0 ≤ m * P := Int.mul_nonneg hm (by omega)
  have h2 : 0 ≤ n * P := Int.mul_nonneg hn (by omega)
  have h3 : (m * P) * (n * P) < (16 * a) * (16 * b) := by
    have q1 : (m * P) * (n * P) ≤ (16 * a) * (n * P) := Int.mul_le_mul_of_nonneg_right (by omega) h2
    have q2 : (16 * a) * (n * P) < (16 * a) * (16 * b) := Int.mul_lt_mul_of_pos_left hb (by omega)
    omega
  have e1 : (m * P) * (n * P) = m * n * (P * P) := by grind
  have e2 : (16 * a) * (16 * b) = 256 * (a * b) := by grind
  omega
theorem mul_lt_sq' {P a b : Int} {m n : Int} (hP : 0 < P) (ha : 16 * a < m * P) (hb : 16 * b ≤ n * P) (ha0 : 0 ≤ a) (hb0 : 0 < b) : 256 * (a * b) < m * n * (P * P) := by
  have h3 : (16 * a) * (16 * b) < (m * P) * (n * P) := by
    have q1 : (16 * a) * (16 * b) < (m * P) * (16 * b) := Int.mul_lt_mul_of_pos_right ha (by omega)
    have q2 : (m * P) * (16 * b) ≤ (m * P) * (n * P) := Int.mul_le_mul_of_nonneg_left hb (by omega)
    omega
  have e1 : (m * P) * (n * P) = m * n * (P * P) := by grind
  have e2 : (16 * a) * (16 * b) = 256 * (a * b) := by grind
  omega
theorem case_pp {P α s' r' y w : Int} (hP : 0 < P) (a1 : P ≤ α) (a2 : 16 * α ≤ 20 * P) (hy : 15 * P < 16 * y) (hw : 15 * P < 16 * w) (hwP : w < P) (q1 : s'.fmod y = 0) (q2 : r'.fmod y = 0) (ew : y * w = y * α - s' * r') : False := by
  have y0 : y ≠ 0 := by omega
  have f1 := Int.mul_fdiv_add_fmod s' y
  have f2 := Int.mul_fdiv_add_fmod r' y
  rw [q1, Int.add_zero] at f1
  rw [q2, Int.add_zero] at f2
  have e1 : α - w = y * (s'.fdiv y * r'.fdiv y) := by
    refine mul_cancel y0 ?_
    have : y * (y * (s'.fdiv y * r'.fdiv y)) = s' * r' := by
      conv => rhs; rw [← f1, ← f2]
      grind
    rw [this, Int.mul_sub, ew]
    omega
  generalize s'.fdiv y * r'.fdiv y = k at e1
  clear f1 f2 ew q1 q2
  by_cases hk : 1 ≤ k
  · have := Int.mul_le_mul_of_nonneg_left hk (show 0 ≤ y by omega)
    omega
  · have := Int.mul_nonpos_of_nonneg_of_nonpos (show 0 ≤ y by omega) (show k ≤ 0 by omega)
    omega
theorem abs_mul2 {s r : Int} (h : s * r = s * r) : ((s * r).natAbs : Int) = s.natAbs * r.natAbs := by rw [Int.natAbs_mul]; simp
theorem fm_opp {y : Int} (hy : y < 0) : (-y).fmod y = 0 := by
  have := fm_neg (a := -y) (z := y) (k := -1) hy (by omega) (by omega)
  omega
/-- a great s' behind a negative y -/
theorem np_pos {P s' y : Int} (hP : 0 < P) (hy : 15 * P < 16 * -y) (hy0 : y < 0) (hs : -y ≤ s' ∨ s' ≤ y) (g : Gt P (s'.fmod y)) (q : s'.fmod y ≠ 0) (l : -(29 * P) ≤ 16 * s' ∧ 16 * s' ≤ 29 * P) : 0 < s' ∧ s'.fmod y = s' + 2 * y := by
  rcases hs with hs | hs
  · have h1 : s' ≠ -y := fun e => q (by rw [e]; exact fm_opp hy0)
    exact ⟨by omega, fm_pn (by omega) (by omega) hy0⟩
  · have h1 : s' ≠ y := fun e => q (by rw [e]; exact fm_self y)
    exact absurd g (sm_same hP (by omega) (.inr ⟨hy0, by omega, l.1⟩))
theorem case_np {P α s' r' y w s'' r'' : Int} (hP : 0 < P) (a1 : P ≤ α) (a2 : 16 * α ≤ 20 * P) (hy : 15 * P < 16 * -y) (hy0 : y < 0) (hyP : -y < P) (hw : 15 * P < 16 * w) (hwP : w < P) (hs : -y ≤ s' ∨ s' ≤ y) (hr : -y ≤ r' ∨ r' ≤ y)
    (es : s'' = s'.fmod y) (er : r'' = r'.fmod y) (gs : Gt P s'') (gr : Gt P r'') (ew : y * w = y * α - s' * r' + s'' * r'') : False := by
  have y0 : y ≠ 0 := by omega
  have d1 : 0 < α - w := by omega
  have e1 : s' * r' = s'' * r'' - (-y) * (α - w) := by
    have : (-y) * (α - w) = y * w - y * α := by grind
    omega
  have b1 : 256 * ((α - w) * (-y)) < 5 * 16 * (P * P) := mul_lt_sq' hP (by omega) (by omega) (by omega) (by omega)
  rw [Int.mul_comm (α - w)] at b1
  have b2 : 0 < (-y) * (α - w) := Int.mul_pos (by omega) d1
  have sA : 15 * P < 16 * (s'.natAbs : Int) := by clear ew e1 b1 b2 es er gs gr; omega
  have rA : 15 * P < 16 * (r'.natAbs : Int) := by clear ew e1 b1 b2 es er gs gr; omega
  have PP : 0 < P * P := Int.mul_pos hP hP
  have e3 : ((s' * r').natAbs : Int) = s'.natAbs * r'.natAbs := abs_mul2 rfl
  have b0 := mul_lt_sq (m := 15) (n := 15) (a := s'.natAbs) (b := r'.natAbs) hP sA rA (by decide) (by decide)
  rw [← e3] at b0
  generalize hY : (-y) * (α - w) = Y at *
  generalize hX : s' * r' = X at *
  by_cases q : s'' = 0 ∨ r'' = 0
  · have e2 : s'' * r'' = 0 := by rcases q with q | q <;> rw [q] <;> simp
    rw [e2] at e1
    clear ew hX hY hs hr
    omega
  · have qs : s'' ≠ 0 := fun z => q (.inl z)
    have qr : r'' ≠ 0 := fun z => q (.inr z)
    have rs := fm_rng (a := s') y0
    have rr := fm_rng (a := r') y0
    rw [← es] at rs
    rw [← er] at rr
    have s3 : 15 * P < 16 * -s'' := by unfold Gt at gs; clear e1 b0 b1 b2 e3 hX hY ew hs hr rr; omega
    have r3 : 15 * P < 16 * -r'' := by unfold Gt at gr; clear e1 b0 b1 b2 e3 hX hY ew hs hr rs; omega
    have s4 : 16 * -s'' < 16 * P := by clear e1 b0 b1 b2 e3 hX hY ew hs hr rr gs gr; omega
    have r4 : 16 * -r'' ≤ 16 * P := by clear e1 b0 b1 b2 e3 hX hY ew hs hr rs gs gr; omega
    have b3 := mul_lt_sq (m := 15) (n := 15) (a := -s'') (b := -r'') hP s3 r3 (by decide) (by decide)
    have b4 := mul_lt_sq' (m := 16) (n := 16) (a := -s'') (b := -r'') hP s4 r4 (by clear rr rs; omega) (by clear rs rr; omega)
    have e4 : (-s'') * (-r'') = s'' * r'' := by grind
    rw [e4] at b3 b4
    have lim : ((X.natAbs : Nat) : Int) * 256 < 256 * (P * P) ∧ 0 < X := by clear ew hX hY hs hr rs rr s3 s4 r3 r4 gs gr es er; omega
    have sl : (s'.natAbs : Int) * 16 ≤ 29 * P := by
      rcases Int.lt_or_le (29 * P) (16 * s'.natAbs) with c | c
      · have := mul_lt_sq (m := 29) (n := 15) (a := s'.natAbs) (b := r'.natAbs) hP c rA (by decide) (by decide)
        rw [← e3] at this
        have l1 := lim.1
        clear ew hX hY hs hr rs rr s3 s4 r3 r4 gs gr es er e1 b0 b1 b2 b3 b4 lim
        omega
      · omega
    have rl : (r'.natAbs : Int) * 16 ≤ 29 * P := by
      rcases Int.lt_or_le (29 * P) (16 * r'.natAbs) with c | c
      · have := mul_lt_sq (m := 15) (n := 29) (a := s'.natAbs) (b := r'.natAbs) hP sA c (by decide) (by decide)
        rw [← e3] at this
        have l1 := lim.1
        clear ew hX hY hs hr rs rr s3 s4 r3 r4 gs gr es er e1 b0 b1 b2 b3 b4 lim
        omega
      · omega
    obtain ⟨p1, p2⟩ := np_pos hP hy hy0 hs (by rw [← es]; exact gs) (by rw [← es]; exact qs) (by clear hX ew e1 e3; omega)
    obtain ⟨p3, p4⟩ := np_pos hP hy hy0 hr (by rw [← er]; exact gr) (by rw [← er]; exact qr) (by clear hX ew e1 e3; omega)
    have : w = α + 2 * s' + 2 * r' + 4 * y := mul_cancel y0 (by rw [ew, ← hX, es, er, p2, p4]; grind)
    clear ew e1 b0 b1 b2 b3 b4 hX hY e3 rs rr
    omega
/-- a great s' behind a positive y -/
theorem pn_pos {P s' y : Int} (hP : 0 < P) (hy : 15 * P < 16 * y) (hs : y ≤ s') (g : Gt P (s'.fmod y)) (l : 16 * s' ≤ 29 * P) : s' = y := by
  rcases Int.lt_or_le y s' with q | q
  · exact absurd g (sm_same hP (.inl hy) (.inl ⟨by omega, q, l⟩))
  · omega
theorem case_pn {P α s' r' y w s'' r'' : Int} (hP : 0 < P) (a1 : P ≤ α) (a2 : 16 * α ≤ 20 * P) (hy : 15 * P < 16 * y) (hyP : y < P) (hw : 15 * P < 16 * -w) (hwP : -w < P) (hs : y ≤ s' ∨ s' ≤ -y) (hr : y ≤ r' ∨ r' ≤ -y)
    (es : s'' = s'.fmod y) (er : r'' = r'.fmod y) (gs : Gt P s'') (gr : Gt P r'') (ew : y * w = y * α - s' * r' + s'' * r'')
    (ns : s' ≠ y) (nr : r' ≠ y) (ks : s' < 0 → r' < 0 → -(29 * P) < 16 * s' → False) (kr : s' < 0 → r' < 0 → -(29 * P) < 16 * r' → False) : False := by
  have y0 : y ≠ 0 := by omega
  have d1 : 0 < α - w := by omega
  have e1 : s' * r' = y * (α - w) + s'' * r'' := by rw [Int.mul_sub]; omega
  have b2 : 0 < y * (α - w) := Int.mul_pos (by omega) d1
  have rs := fm_rng (a := s') y0
  have rr := fm_rng (a := r') y0
  rw [← es] at rs
  rw [← er] at rr
  have s3 : 0 ≤ s'' ∧ s'' < P := by clear e1 b2 rr hs hr ew ks kr; omega
  have r3 : 0 ≤ r'' ∧ r'' < P := by clear e1 b2 rs hs hr ew ks kr; omega
  have b3 : 0 ≤ s'' * r'' := Int.mul_nonneg s3.1 r3.1
  have b4 : 256 * (y * (α - w)) < 16 * 36 * (P * P) := mul_lt_sq' hP (by omega) (by clear rs rr e1 b2 b3; omega) (by omega) d1
  have b5 : s'' * r'' ≤ P * P := Int.mul_le_mul (by omega) (by omega) r3.1 (by omega)
  have lim : 0 < s' * r' ∧ 256 * (s' * r') < 832 * (P * P) := by
    clear rs rr hs hr ew ks kr s3 r3 gs gr
    omega
  clear e1 b2 b3 b4 b5 rs rr s3 r3
  rcases hs with hs | hs
  · have hr : y ≤ r' := by
      rcases hr with hr | hr
      · exact hr
      · have := Int.mul_nonpos_of_nonneg_of_nonpos (show 0 ≤ s' by omega) (show r' ≤ 0 by omega)
        have := lim.1
        omega
    rcases Int.lt_or_le (29 * P) (16 * s') with c | c
    · rcases Int.lt_or_le (29 * P) (16 * r') with c2 | c2
      · have := mul_lt_sq (m := 29) (n := 29) hP c c2 (by decide) (by decide)
        have PP : 0 < P * P := Int.mul_pos hP hP
        have l2 := lim.2
        clear ew lim
        omega
      · exact nr (pn_pos hP hy hr (by rw [← er]; exact gr) c2)
    · exact ns (pn_pos hP hy hs (by rw [← es]; exact gs) c)
  · have hr : r' ≤ -y := by
      rcases hr with hr | hr
      · have := Int.mul_nonpos_of_nonpos_of_nonneg (show s' ≤ 0 by omega) (show 0 ≤ r' by omega)
        have := lim.1
        omega
      · exact hr
    rcases Int.lt_or_le (-(29 * P)) (16 * s') with c | c
    · exact ks (by omega) (by omega) c
    · rcases Int.lt_or_le (-(29 * P)) (16 * r') with c2 | c2
      · exact kr (by omega) (by omega) c2
      · have q1 : (29 * P) * (29 * P) ≤ (16 * -s') * (16 * -r') := Int.mul_le_mul (by omega) (by omega) (by omega) (by omega)
        have q2 : (29 * P) * (29 * P) = 841 * (P * P) := by grind
        have q3 : (16 * -s') * (16 * -r') = 256 * (s' * r') := by grind
        have PP : 0 < P * P := Int.mul_pos hP hP
        have l2 := lim.2
        clear ew lim ks kr
        omega
end
end TM
namespace TM
section
variable {P s1 s2 r1 r2 z x u v ρ σ x' u' α s' r' y s'' r'' x'' u'' w σ'' ρ'' : Int}
theorem aw {P z y w : Int} (hP : 0 < P) (h1 : z.natAbs < P.natAbs) (h2 : y.natAbs < z.natAbs) (h3 : w.natAbs < y.natAbs) : -P < z ∧ z < P ∧ -P < y ∧ y < P ∧ -P < w ∧ w < P := by omega
theorem an {y s : Int} (h : y.natAbs ≤ s.natAbs) : (0 < y → y ≤ s ∨ s ≤ -y) ∧ (y < 0 → -y ≤ s ∨ s ≤ y) := by omega
/-- a smaller inner pivot keeps off great remainders of its own sign -/
theorem off {P a w : Int} (hP : 0 < P) (hw : 15 * P < 16 * w ∨ 16 * w < -(15 * P)) (ha : -P < a) (hb : a < P) (hl : a ≠ 0 → w.natAbs < a.natAbs) (hs : (0 < w ∧ 0 ≤ a) ∨ (w < 0 ∧ a ≤ 0)) (g : Gt P (a.fmod w)) : a = 0 := by
  by_cases q : a = 0
  · exact q
  · have := hl q
    exact absurd g (sm_same hP hw (by omega))
theorem chain (h : S0 P s1 s2 r1 r2 z x u v) (g : S1 P s1 s2 r1 r2 z x u v ρ σ x' u' α s' r' y) (k : S2 P z ρ σ x' u' α s' r' y s'' r'' x'' u'' w σ'' ρ'') : False := by
  have hP := h.P0
  obtain ⟨a1, a2⟩ := S1.alpha h g
  obtain ⟨zl, zu, yl, yu, wl, wu⟩ := aw hP h.zP k.yz k.wy
  have y0 : y ≠ 0 := by have := k.yg; omega
  have w0 : w ≠ 0 := by have := k.wg; omega
  have z0 : z ≠ 0 := by have := h.zg; omega
  have s0 : s' ≠ 0 := fun q => by
    have es := k.es
    have ew := k.ew
    rw [q, Int.zero_fmod] at es
    rw [q, es] at ew
    have e : w = α := mul_cancel y0 (by rw [ew]; simp)
    omega
  have r0 : r' ≠ 0 := fun q => by
    have er := k.er
    have ew := k.ew
    rw [q, Int.zero_fmod] at er
    rw [q, er] at ew
    have e : w = α := mul_cancel y0 (by rw [ew]; simp)
    omega
  have sp := S1.sp h g
  have rp := S1.rp h g
  have sp' : (s1 = 0 ∧ s' = s2) ∨ (z < 0 ∧ -z < s1 ∧ s' = s2 - x.fdiv z * s1 + 2 * x') := sp.imp (fun q => ⟨q.1, q.2.2⟩) (fun q => ⟨q.1, q.2.1, q.2.2.2⟩)
  have rp' : (r1 = 0 ∧ r' = r2) ∨ (z < 0 ∧ -z < r1 ∧ r' = r2 - u.fdiv z * r1 + 2 * u') := rp.imp (fun q => ⟨q.1, q.2.2⟩) (fun q => ⟨q.1, q.2.1, q.2.2.2⟩)
  have hT : S0 P r1 r2 s1 s2 z u x v := ⟨h.P0, h.r1a, h.r1b, h.r2a, h.r2b, h.s1a, h.s1b, h.s2a, h.s2b, h.zg, h.zP, h.zs, h.zr, h.zs2, h.zr2, h.zu, h.zx⟩
  have σr : σ = 0 ∨ (σ < 0 ∧ z < σ) := by
    have := h.s1b; have := h.zg
    rcases sp with q | q
    · exact .inl q.2.1
    · obtain ⟨q1, q2, q3, _⟩ := q; clear sp' rp' rp; omega
  have ρr : ρ = 0 ∨ (ρ < 0 ∧ z < ρ) := by
    have := h.r1b; have := h.zg
    rcases rp with q | q
    · exact .inl q.2.1
    · obtain ⟨q1, q2, q3, _⟩ := q; clear sp' rp' sp; omega
  have ρneg : ρ ≠ 0 → x' = 0 → w < 0 → False := fun q qx hw => by
    have ex := k.ex
    have eρ := k.eρ
    have kρ := k.kρ
    have yρ := k.yρ q
    have wy := k.wy
    have e1 : ρ'' = ρ := by
      rw [qx, Int.zero_fmod] at ex
      rw [qx, ex] at eρ
      exact mul_cancel y0 (by rw [eρ]; simp)
    rw [e1] at kρ
    exact q (off hP k.wg (by omega) (by omega) (fun _ => by omega) (.inr ⟨hw, by omega⟩) kρ)
  have σneg : σ ≠ 0 → u' = 0 → w < 0 → False := fun q qx hw => by
    have eu := k.eu
    have eσ := k.eσ
    have kσ := k.kσ
    have yσ := k.yσ q
    have wy := k.wy
    have e1 : σ'' = σ := by
      rw [qx, Int.zero_fmod] at eu
      rw [qx, eu] at eσ
      exact mul_cancel y0 (by rw [eσ]; simp)
    rw [e1] at kσ
    exact q (off hP k.wg (by omega) (by omega) (fun _ => by omega) (.inr ⟨hw, by omega⟩) kσ)
  have rs := fm_rng (a := s') y0
  have rr := fm_rng (a := r') y0
  rw [← k.es] at rs
  rw [← k.er] at rr
  have same : ((0 < y ∧ 0 < w) ∨ (y < 0 ∧ w < 0)) → s'' = 0 ∧ r'' = 0 := fun hh =>
    ⟨off hP k.wg (by clear rr sp rp sp' rp' σr ρr; omega) (by clear rr sp rp sp' rp' σr ρr; omega) k.ws (by clear rr sp rp sp' rp' σr ρr; omega) k.ks, off hP k.wg (by clear rs sp rp sp' rp' σr ρr; omega) (by clear rs sp rp sp' rp' σr ρr; omega) k.wr (by clear rs sp rp sp' rp' σr ρr; omega) k.kr⟩
  have hs := an (k.ys s0)
  have hr := an (k.yr r0)
  rcases Int.lt_or_lt_of_ne y0 with hy | hy <;> rcases Int.lt_or_lt_of_ne w0 with hw | hw
  · -- both negative
    obtain ⟨q1, q2⟩ := same (.inr ⟨hy, hw⟩)
    have ew := k.ew
    rw [q1, q2] at ew
    have hpos : 0 < y * (w - α) := Int.mul_pos_of_neg_of_neg hy (by omega)
    have e1 : y * (w - α) = -(s' * r') := by rw [Int.mul_sub, ew]; simp; omega
    have xr := fm_rng (a := x) (z := z) z0
    have ur := fm_rng (a := u) (z := z) z0
    rw [← g.ex] at xr
    rw [← g.eu] at ur
    by_cases hz : 0 < z
    · have t1 : s' = s2 := by rcases sp' with q | q <;> omega
      have t2 : r' = r2 := by rcases rp' with q | q <;> omega
      have h1 := h.s2a
      have h2 := h.r2a
      have := Int.mul_pos (show 0 < s' by omega) (show 0 < r' by omega)
      rw [e1] at hpos
      clear sp rp sp' rp' σr ρr rs rr hs hr xr ur
      omega
    · have x0 : x' = 0 := by
        refine off hP k.yg ?_ ?_ k.yx (.inr ⟨hy, ?_⟩) (by rw [← k.ex]; exact k.gx)
        all_goals (clear sp rp sp' rp' σr ρr rs rr hs hr ur; omega)
      have u0 : u' = 0 := by
        refine off hP k.yg ?_ ?_ k.yu (.inr ⟨hy, ?_⟩) (by rw [← k.eu]; exact k.gu)
        all_goals (clear sp rp sp' rp' σr ρr rs rr hs hr xr; omega)
      by_cases qρ : ρ = 0
      · by_cases qσ : σ = 0
        · exact k.fail ⟨qσ, qρ, x0, u0⟩
        · exact σneg qσ u0 hw
      · exact ρneg qρ x0 hw
  · have yg := k.yg
    have wg := k.wg
    exact case_np hP a1 a2 (by omega) hy (by omega) (by omega) wu (hs.2 hy) (hr.2 hy) k.es k.er k.gs k.gr k.ew
  · have yg : 15 * P < 16 * y := by have := k.yg; omega
    have wg : 15 * P < 16 * -w := by have := k.wg; omega
    refine case_pn hP a1 a2 yg yu wg (by omega) (hs.1 hy) (hr.1 hy) k.es k.er k.gs k.gr k.ew (fun e => ne_y h sp' g.ex yg k.yz k.yx e) (fun e => ne_y hT rp' g.eu yg k.yz k.yu e) (fun hs hr c => ?_) (fun hs hr c => ?_)
    · have x0 := neg_s h sp' g.ex yg k.yx hs c
      by_cases qρ : ρ = 0
      · have := h.r2a
        have := h.r1b
        have := h.zg
        rcases rp with q | ⟨q1, q2, q3, q4⟩
        · omega
        · clear sp' rp' q4; omega
      · exact ρneg qρ x0 hw
    · have u0 := neg_s hT rp' g.eu yg k.yu hr c
      by_cases qσ : σ = 0
      · have := h.s2a
        have := h.s1b
        have := h.zg
        rcases sp with q | ⟨q1, q2, q3, q4⟩
        · omega
        · clear sp' rp' q4; omega
      · exact σneg qσ u0 hw
  · obtain ⟨q1, q2⟩ := same (.inl ⟨hy, hw⟩)
    have ew := k.ew
    rw [q1, q2] at ew
    have yg : 15 * P < 16 * y := by have := k.yg; omega
    have wg : 15 * P < 16 * w := by have := k.wg; omega
    exact case_pp hP a1 a2 yg wg wu (by rw [← k.es]; exact q1) (by rw [← k.er]; exact q2) (by rw [ew]; simp)
end
end TM
/-! Steps of the turning as relations of tables. -/
namespace TM
def sw (a r i : Nat) : Nat := if i = r then a else if i = a then r else i
def Nof (M : Mx) (a r c : Nat) : Mx := fun i j => M (sw a r i) (sw a c j)
theorem sw_a (a r : Nat) : sw a r a = r := by
  unfold sw
  by_cases h : a = r
  · simp [h]
  · simp [h]
theorem sw_r (a r : Nat) : sw a r r = a := by unfold sw; simp
theorem sw_o {a r i : Nat} (h1 : i ≠ r) (h2 : i ≠ a) : sw a r i = i := by unfold sw; simp [h1, h2]
theorem sw_aa (a i : Nat) : sw a a i = i := by unfold sw; split <;> omega
theorem sw_ge {a r i : Nat} (hr : a ≤ r) (hi : a ≤ i) : a ≤ sw a r i := by unfold sw; split <;> (try split) <;> omega
structure Stp (a : Nat) (M M' : Mx) (r c : Nat) : Prop where
  lr : a ≤ r
  lc : a ≤ c
  nz : M r c ≠ 0
  le : ∀ i j, a ≤ i → a ≤ j → M i j ≠ 0 → (M r c).natAbs ≤ (M i j).natAbs
  st : r ≠ a → c ≠ a → (M a c ≠ 0 → (M r c).natAbs < (M a c).natAbs) ∧ (M r a ≠ 0 → (M r c).natAbs < (M r a).natAbs)
  cl : Clr a (Nof M a r c) M'
/-- the cross of a cleared place -/
structure Pc (a : Nat) (M : Mx) : Prop where
  nz : M a a ≠ 0
  col : ∀ i, a < i → (0 < M a a ∧ 0 ≤ M i a ∧ M i a < M a a) ∨ (M a a < 0 ∧ M i a ≤ 0 ∧ M a a < M i a)
  row : ∀ j, a < j → (0 < M a a ∧ 0 ≤ M a j ∧ M a j < M a a) ∨ (M a a < 0 ∧ M a j ≤ 0 ∧ M a a < M a j)
/-- the cross is not bare -/
def Fl (a : Nat) (M : Mx) : Prop := ∃ i, a < i ∧ (M i a ≠ 0 ∨ M a i ≠ 0)
section
variable {a : Nat} {M M' : Mx} {r c : Nat}
theorem Stp.at (h : Stp a M M' r c) : Nof M a r c a a = M r c := by simp only [Nof, sw_a]
theorem Stp.pc (h : Stp a M M' r c) : Pc a M' := by
  have p0 := h.cl.p0
  refine ⟨by rw [h.cl.cc]; exact p0, fun i hi => ?_, fun j hj => ?_⟩
  · rw [h.cl.cl i hi, h.cl.cc]
    exact fm_rng p0
  · rw [h.cl.rw_ j hj, h.cl.cc]
    exact fm_rng p0
theorem Stp.cen (h : Stp a M M' r c) : M' a a = M r c := by rw [h.cl.cc, h.at]
/-- the pivot is less than the centre -/
theorem Stp.lt (h : Stp a M M' r c) (p : Pc a M) (f : Fl a M) : (M r c).natAbs < (M a a).natAbs := by
  obtain ⟨i, hi, q | q⟩ := f
  · have h1 := h.le i a (by omega) (Nat.le_refl _) q
    have h2 := p.col i hi
    omega
  · have h1 := h.le a i (Nat.le_refl _) (by omega) q
    have h2 := p.row i hi
    omega
def neg (M : Mx) : Mx := fun i j => -M i j
theorem Stp.ng (h : Stp a M M' r c) : Stp a (neg M) (neg M') r c where
  lr := h.lr
  lc := h.lc
  nz := by have := h.nz; simp only [neg]; omega
  le := fun i j hi hj q => by have := h.le i j hi hj; simp only [neg] at q ⊢; omega
  st := fun q1 q2 => by have := h.st q1 q2; simp only [neg]; omega
  cl := by
    have k := h.cl
    refine ⟨?_, ?_, fun i hi => ?_, fun j hj => ?_, fun i j hi hj => ?_⟩
    · have := k.p0; simp only [Nof, neg] at this ⊢; omega
    · have := k.cc; simp only [Nof, neg] at this ⊢; omega
    · have := k.cl i hi
      show -(M' i a) = (-(Nof M a r c i a)).fmod (-(Nof M a r c a a))
      rw [Int.neg_fmod_neg, this]
    · have := k.rw_ j hj
      show -(M' a j) = (-(Nof M a r c a j)).fmod (-(Nof M a r c a a))
      rw [Int.neg_fmod_neg, this]
    · have := k.inn i j hi hj
      show (-(Nof M a r c a a)) * -(M' i j) = (-(Nof M a r c a a)) * -(Nof M a r c i j) - (-(Nof M a r c i a)) * (-(Nof M a r c a j)) + (-(M' i a)) * (-(M' a j))
      rw [Int.neg_mul_neg, Int.neg_mul_neg, Int.neg_mul_neg, Int.neg_mul_neg]
      exact this
theorem Pc.ng (p : Pc a M) : Pc a (neg M) where
  nz := by have := p.nz; simp only [neg]; omega
  col := fun i hi => by have := p.col i hi; simp only [neg]; omega
  row := fun i hi => by have := p.row i hi; simp only [neg]; omega
theorem Fl.ng (f : Fl a M) : Fl a (neg M) := by
  obtain ⟨i, hi, q⟩ := f
  exact ⟨i, hi, by simp only [neg]; omega⟩
/-- a great pivot in the cross leaves a small remainder of the centre -/
theorem cross_no {P : Int} (hP : 0 < P) (h : Stp a M M' r c) (p : Pc a M) (f : Fl a M) (hPa : (M a a).natAbs ≤ P.natAbs) (g : ∀ i j, a ≤ i → a ≤ j → Gt P (M i j)) (g' : ∀ i j, a ≤ i → a ≤ j → Gt P (M' i j)) : r ≠ a ∧ c ≠ a := by
  have hl := h.lt p f
  have hg := g r c h.lr h.lc
  have nz := h.nz
  have e := h.at
  have lr := h.lr
  have lc := h.lc
  constructor
  · intro hr
    have hr := hr.symm
    subst hr
    have hc : a < c := by
      rcases Nat.lt_or_eq_of_le lc with q | q
      · exact q
      · subst q; omega
    have h2 := p.row c hc
    have k := h.cl.rw_ c hc
    rw [e] at k
    have e2 : Nof M a a c a c = M a a := by simp only [Nof, sw_aa, sw_r]
    rw [e2] at k
    have := g' a c (Nat.le_refl _) (by omega)
    rw [k] at this
    unfold Gt at hg
    exact sm_same hP (by omega) (by omega) this
  · intro hc
    have hc := hc.symm
    subst hc
    have hr : a < r := by
      rcases Nat.lt_or_eq_of_le lr with q | q
      · exact q
      · subst q; omega
    have h2 := p.col r hr
    have k := h.cl.cl r hr
    rw [e] at k
    have e2 : Nof M a r a r a = M a a := by simp only [Nof, sw_aa, sw_r]
    rw [e2] at k
    have := g' r a (by omega) (Nat.le_refl _)
    rw [k] at this
    unfold Gt at hg
    exact sm_same hP (by omega) (by omega) this
end
def W3 (a : Nat) (M : Mx) : Prop := ∀ i j, a + 3 ≤ i ∨ a + 3 ≤ j → M i j = 0
theorem W3.lt {a : Nat} {M : Mx} (h : W3 a M) {i j : Nat} (q : M i j ≠ 0) : i < a + 3 ∧ j < a + 3 := by
  constructor
  · exact Classical.byContradiction fun z => q (h i j (.inl (by omega)))
  · exact Classical.byContradiction fun z => q (h i j (.inr (by omega)))
section
variable {a : Nat} {M0 M1 M2 M3 : Mx} {r1 c1 r2 c2 r3 c3 : Nat}
/-- the state of chain, from tables -/
theorem two {a i r s : Nat} (hi : a < i) (h3 : i < a + 3) (hr : a < r) (hr3 : r < a + 3) (hs : a < s) (hs3 : s < a + 3) (ne : s ≠ r) : i = r ∨ i = s := by omega
theorem lt_of {a r : Nat} (h : a ≤ r) (n : r ≠ a) : a < r := by omega
theorem mkS0 (p : Pc a M0) (f : Fl a M0) (h : Stp a M0 M1 r1 c1) (hp : 0 < M0 a a) (q1 : r1 ≠ a) (q2 : c1 ≠ a) {r' c' : Nat} (hr : a < r') (hc : a < c') (g : ∀ i j, a ≤ i → a ≤ j → Gt (M0 a a) (M0 i j)) :
    S0 (M0 a a) (M0 a c1) (M0 a c') (M0 r1 a) (M0 r' a) (M0 r1 c1) (M0 r1 c') (M0 r' c1) (M0 r' c') := by
  have lr := h.lr
  have lc := h.lc
  have a1 := p.row c1 (by omega)
  have a2 := p.row c' hc
  have a3 := p.col r1 (by omega)
  have a4 := p.col r' hr
  have nz := h.nz
  have hg := g r1 c1 h.lr h.lc
  have st := h.st q1 q2
  unfold Gt at hg
  exact ⟨hp, by omega, by omega, by omega, by omega, by omega, by omega, by omega, by omega, by omega, h.lt p f, st.2, st.1, h.le _ _ (by omega) (Nat.le_refl _), h.le _ _ (Nat.le_refl _) (by omega), h.le _ _ (by omega) (by omega), h.le _ _ (by omega) (by omega)⟩
theorem mkS1 (h : Stp a M0 M1 r1 c1) (q1 : r1 ≠ a) (q2 : c1 ≠ a) {r' c' : Nat} (hr : a < r') (hc : a < c') (nr : r' ≠ r1) (nc : c' ≠ c1) (g : ∀ i j, a ≤ i → a ≤ j → Gt (M0 a a) (M1 i j)) :
    S1 (M0 a a) (M0 a c1) (M0 a c') (M0 r1 a) (M0 r' a) (M0 r1 c1) (M0 r1 c') (M0 r' c1) (M0 r' c') (M1 a c1) (M1 r1 a) (M1 a c') (M1 r' a) (M1 r1 c1) (M1 r1 c') (M1 r' c1) (M1 r' c') := by
  have lr := h.lr
  have lc := h.lc
  have e := h.at
  have k := h.cl
  have b1 := k.rw_ c1 (by omega)
  have b2 := k.cl r1 (by omega)
  have b3 := k.rw_ c' hc
  have b4 := k.cl r' hr
  have b5 := k.inn r1 c1 (by omega) (by omega)
  have b6 := k.inn r1 c' (by omega) hc
  have b7 := k.inn r' c1 hr (by omega)
  rw [e] at b1 b2 b3 b4 b5 b6 b7
  have sr : sw a r1 r' = r' := sw_o nr (by omega)
  have sc : sw a c1 c' = c' := sw_o nc (by omega)
  simp only [Nof, sw_a, sw_r, sr, sc] at b1 b2 b3 b4 b5 b6 b7
  exact ⟨b1, b2, b3, b4, b5, b6, b7, g _ _ (Nat.le_refl _) lc, g _ _ lr (Nat.le_refl _), g _ _ (Nat.le_refl _) (by omega), g _ _ (by omega) (Nat.le_refl _)⟩
/-- where two great pivots stand -/
theorem nextpos_p (w : W3 a M0) (w1 : W3 a M1) (p : Pc a M0) (f0 : Fl a M0) (f1 : Fl a M1) (h1 : Stp a M0 M1 r1 c1) (h2 : Stp a M1 M2 r2 c2) (hp : 0 < M0 a a)
    (g0 : ∀ i j, a ≤ i → a ≤ j → Gt (M0 a a) (M0 i j)) (g1 : ∀ i j, a ≤ i → a ≤ j → Gt (M0 a a) (M1 i j)) (g2 : ∀ i j, a ≤ i → a ≤ j → Gt (M0 a a) (M2 i j)) : r1 ≠ a ∧ c1 ≠ a ∧ r2 ≠ a ∧ c2 ≠ a ∧ r2 ≠ r1 ∧ c2 ≠ c1 := by
  obtain ⟨q1, q2⟩ := cross_no hp h1 p f0 (Nat.le_refl _) g0 g1
  have l1 := h1.lt p f0
  have cen := h1.cen
  have l2 := h2.lt h1.pc f1
  rw [cen] at l2
  obtain ⟨q3, q4⟩ := cross_no hp h2 h1.pc f1 (by rw [cen]; omega) g1 g2
  have lr1 := h1.lr
  have lc1 := h1.lc
  have lr2 := h2.lr
  have lc2 := h2.lc
  have wa := w.lt h1.nz
  have wb := w1.lt h2.nz
  have gy := g1 r2 c2 lr2 lc2
  have nz2 := h2.nz
  unfold Gt at gy
  have st := h2.st q3 q4
  -- the other row and column
  obtain ⟨r', hr', hr2⟩ : ∃ r', a < r' ∧ r' ≠ r1 := ⟨2 * a + 3 - r1, by omega, by omega⟩
  obtain ⟨c', hc', hc2⟩ : ∃ c', a < c' ∧ c' ≠ c1 := ⟨2 * a + 3 - c1, by omega, by omega⟩
  refine ⟨q1, q2, q3, q4, fun e => ?_, fun e => ?_⟩
  · subst e
    by_cases ec : c2 = c1
    · subst ec
      have := (S1.alpha (mkS0 p f0 h1 hp q1 q2 hr' hc' g0) (mkS1 h1 q1 q2 hr' hc' hr2 hc2 g1)).1
      omega
    · have k := h2.cl
      have b1 := k.rw_ c1 (by omega)
      have b2 := k.rw_ c2 (by omega)
      rw [h2.at] at b1 b2
      have sc : sw a c2 c1 = c1 := sw_o (by omega) (by omega)
      simp only [Nof, sw_a, sw_r, sc] at b1 b2
      have k1 := g2 a c1 (Nat.le_refl _) (by omega)
      have k2 := g2 a c2 (Nat.le_refl _) (by omega)
      rw [b1] at k1
      rw [b2] at k2
      exact no_s (mkS0 p f0 h1 hp q1 q2 hr' (show a < c2 by omega) g0) (mkS1 h1 q1 q2 hr' (show a < c2 by omega) hr2 ec g1) l2 (by omega) st.2 k1 k2
  · subst e
    by_cases er : r2 = r1
    · subst er
      have := (S1.alpha (mkS0 p f0 h1 hp q1 q2 hr' hc' g0) (mkS1 h1 q1 q2 hr' hc' hr2 hc2 g1)).1
      omega
    · have k := h2.cl
      have b1 := k.cl r1 (by omega)
      have b2 := k.cl r2 (by omega)
      rw [h2.at] at b1 b2
      have sc : sw a r2 r1 = r1 := sw_o (by omega) (by omega)
      simp only [Nof, sw_a, sw_r, sc] at b1 b2
      have k1 := g2 r1 a (by omega) (Nat.le_refl _)
      have k2 := g2 r2 a (by omega) (Nat.le_refl _)
      rw [b1] at k1
      rw [b2] at k2
      exact no_r (mkS0 p f0 h1 hp q1 q2 (show a < r2 by omega) hc' g0) (mkS1 h1 q1 q2 (show a < r2 by omega) hc' er hc2 g1) l2 (by omega) st.1 k1 k2
theorem Gt.ng {P e : Int} (h : Gt P e) : Gt P (-e) := by unfold Gt at *; omega
theorem Gt.le {P Q e : Int} (h : Gt P e) (hq : Q ≤ P) : Gt Q e := by unfold Gt at *; omega
theorem nextpos {P : Int} (w : W3 a M0) (w1 : W3 a M1) (p : Pc a M0) (f0 : Fl a M0) (f1 : Fl a M1) (h1 : Stp a M0 M1 r1 c1) (h2 : Stp a M1 M2 r2 c2) (hP : (M0 a a).natAbs ≤ P)
    (g0 : ∀ i j, a ≤ i → a ≤ j → Gt P (M0 i j)) (g1 : ∀ i j, a ≤ i → a ≤ j → Gt P (M1 i j)) (g2 : ∀ i j, a ≤ i → a ≤ j → Gt P (M2 i j)) : r1 ≠ a ∧ c1 ≠ a ∧ r2 ≠ a ∧ c2 ≠ a ∧ r2 ≠ r1 ∧ c2 ≠ c1 := by
  rcases Int.lt_or_lt_of_ne p.nz with q | q
  · have e : neg M0 a a = -(M0 a a) := rfl
    exact nextpos_p (fun i j hij => by show -(M0 i j) = 0; rw [w i j hij]; rfl) (fun i j hij => by show -(M1 i j) = 0; rw [w1 i j hij]; rfl) p.ng f0.ng f1.ng h1.ng h2.ng (by rw [e]; omega)
      (fun i j hi hj => (g0 i j hi hj).ng.le (by rw [e]; omega)) (fun i j hi hj => (g1 i j hi hj).ng.le (by rw [e]; omega)) (fun i j hi hj => (g2 i j hi hj).ng.le (by rw [e]; omega))
  · exact nextpos_p w w1 p f0 f1 h1 h2 q (fun i j hi hj => (g0 i j hi hj).le (by omega)) (fun i j hi hj => (g1 i j hi hj).le (by omega)) (fun i j hi hj => (g2 i j hi hj).le (by omega))
theorem ph3_p (w : W3 a M0) (w1 : W3 a M1) (w2 : W3 a M2) (p : Pc a M0) (f0 : Fl a M0) (f1 : Fl a M1) (f2 : Fl a M2) (h1 : Stp a M0 M1 r1 c1) (h2 : Stp a M1 M2 r2 c2) (h3 : Stp a M2 M3 r3 c3) (hp : 0 < M0 a a)
    (g0 : ∀ i j, a ≤ i → a ≤ j → Gt (M0 a a) (M0 i j)) (g1 : ∀ i j, a ≤ i → a ≤ j → Gt (M0 a a) (M1 i j)) (g2 : ∀ i j, a ≤ i → a ≤ j → Gt (M0 a a) (M2 i j)) (g3 : ∀ i j, a ≤ i → a ≤ j → Gt (M0 a a) (M3 i j)) : False := by
  obtain ⟨q1, q2, q3, q4, q5, q6⟩ := nextpos_p w w1 p f0 f1 h1 h2 hp g0 g1 g2
  have l1 := h1.lt p f0
  have l2 := h2.lt h1.pc f1
  have l3 := h3.lt h2.pc f2
  rw [h1.cen] at l2
  rw [h2.cen] at l3
  obtain ⟨_, _, q7, q8, q9, q10⟩ := nextpos (P := M0 a a) w1 w2 h1.pc f1 f2 h2 h3 (by rw [h1.cen]; omega) g1 g2 g3
  have lr1 := h1.lr
  have lc1 := h1.lc
  have lr2 := h2.lr
  have lc2 := h2.lc
  have lr3 := h3.lr
  have lc3 := h3.lc
  have wa := w.lt h1.nz
  have wb := w1.lt h2.nz
  have wc := w2.lt h3.nz
  have hr2 : a < r2 := lt_of lr2 q3
  have hc2 : a < c2 := lt_of lc2 q4
  have hr1 : a < r1 := lt_of lr1 q1
  have hc1 : a < c1 := lt_of lc1 q2
  have er : r3 = r1 := (two (lt_of lr3 q7) wc.1 hr1 wa.1 hr2 wb.1 q5).resolve_right q9
  have ec : c3 = c1 := (two (lt_of lc3 q8) wc.2 hc1 wa.2 hc2 wb.2 q6).resolve_right q10
  subst er ec
  refine chain (mkS0 p f0 h1 hp q1 q2 hr2 hc2 g0) (mkS1 h1 q1 q2 hr2 hc2 q5 q6 g1) (s'' := M2 r3 a) (r'' := M2 a c3) (x'' := M2 r2 a) (u'' := M2 a c2) (w := M2 r3 c3) (σ'' := M2 r3 c2) (ρ'' := M2 r2 c3) ?_
  have gy := (g1 r2 c2 lr2 lc2).resolve_left h2.nz
  have gw := (g2 r3 c3 lr3 lc3).resolve_left h3.nz
  have st2 := h2.st q3 q4
  have st3 := h3.st q7 q8
  have k := h2.cl
  have b1 := k.rw_ c3 hc1
  have b2 := k.rw_ c2 hc2
  have b3 := k.cl r3 hr1
  have b4 := k.cl r2 hr2
  have b5 := k.inn r3 c3 hr1 hc1
  have b6 := k.inn r3 c2 hr1 hc2
  have b7 := k.inn r2 c3 hr2 hc1
  rw [h2.at] at b1 b2 b3 b4 b5 b6 b7
  have sr : sw a r2 r3 = r3 := sw_o q9 q7
  have sc : sw a c2 c3 = c3 := sw_o q10 q8
  simp only [Nof, sw_a, sw_r, sr, sc] at b1 b2 b3 b4 b5 b6 b7
  have kk := h3.cl
  have d1 := kk.rw_ c3 hc1
  have d2 := kk.rw_ c2 hc2
  have d3 := kk.cl r3 hr1
  have d4 := kk.cl r2 hr2
  rw [h3.at] at d1 d2 d3 d4
  have sr' : sw a r3 r2 = r2 := sw_o (Ne.symm q9) q3
  have sc' : sw a c3 c2 = c2 := sw_o (Ne.symm q10) q4
  simp only [Nof, sw_a, sw_r, sr', sc'] at d1 d2 d3 d4
  have G : ∀ i j, a ≤ i → a ≤ j → Gt (M0 a a) (M3 i j) := g3
  refine ⟨gy, l2, st2.1, st2.2, h2.le _ _ lr3 lc2, h2.le _ _ lr2 lc3, h2.le _ _ lr3 (Nat.le_refl _), h2.le _ _ (Nat.le_refl _) lc3, fun hh => ?_, b3, b1, b4, b2, b5, b6, b7, g2 _ _ lr3 (Nat.le_refl _), g2 _ _ (Nat.le_refl _) lc3, g2 _ _ lr2 (Nat.le_refl _), g2 _ _ (Nat.le_refl _) lc2, gw, l3, st3.2, st3.1, ?_, ?_, ?_, ?_⟩
  · obtain ⟨i, hi, qi⟩ := f1
    obtain ⟨z1, z2, z3, z4⟩ := hh
    rcases qi with q | q
    · rcases two hi (w1.lt q).1 hr1 wa.1 hr2 wb.1 q5 with e | e <;> subst e
      · exact q z1
      · exact q z4
    · rcases two hi (w1.lt q).2 hc1 wa.2 hc2 wb.2 q6 with e | e <;> subst e
      · exact q z2
      · exact q z3
  · rw [← d1]; exact G _ _ (Nat.le_refl _) lc3
  · rw [← d3]; exact G _ _ lr3 (Nat.le_refl _)
  · rw [← d2]; exact G _ _ (Nat.le_refl _) lc2
  · rw [← d4]; exact G _ _ lr2 (Nat.le_refl _)
/-- of a centre and the three pivots behind it: the numbers behind the last one are not all great -/
theorem ph3 (w : W3 a M0) (w1 : W3 a M1) (w2 : W3 a M2) (p : Pc a M0) (f0 : Fl a M0) (f1 : Fl a M1) (f2 : Fl a M2) (h1 : Stp a M0 M1 r1 c1) (h2 : Stp a M1 M2 r2 c2) (h3 : Stp a M2 M3 r3 c3)
    (g0 : ∀ i j, a ≤ i → a ≤ j → Gt (M0 a a).natAbs (M0 i j)) (g1 : ∀ i j, a ≤ i → a ≤ j → Gt (M0 a a).natAbs (M1 i j)) (g2 : ∀ i j, a ≤ i → a ≤ j → Gt (M0 a a).natAbs (M2 i j)) (g3 : ∀ i j, a ≤ i → a ≤ j → Gt (M0 a a).natAbs (M3 i j)) : False := by
  rcases Int.lt_or_lt_of_ne p.nz with q | q
  · have e : neg M0 a a = -(M0 a a) := rfl
    exact ph3_p (fun i j hij => by show -(M0 i j) = 0; rw [w i j hij]; rfl) (fun i j hij => by show -(M1 i j) = 0; rw [w1 i j hij]; rfl) (fun i j hij => by show -(M2 i j) = 0; rw [w2 i j hij]; rfl) p.ng f0.ng f1.ng f2.ng h1.ng h2.ng h3.ng (by rw [e]; omega)
      (fun i j hi hj => (g0 i j hi hj).ng.le (by rw [e]; omega)) (fun i j hi hj => (g1 i j hi hj).ng.le (by rw [e]; omega)) (fun i j hi hj => (g2 i j hi hj).ng.le (by rw [e]; omega)) (fun i j hi hj => (g3 i j hi hj).ng.le (by rw [e]; omega))
  · exact ph3_p w w1 w2 p f0 f1 f2 h1 h2 h3 q (fun i j hi hj => (g0 i j hi hj).le (by omega)) (fun i j hi hj => (g1 i j hi hj).le (by omega)) (fun i j hi hj => (g2 i j hi hj).le (by omega)) (fun i j hi hj => (g3 i j hi hj).le (by omega))
end
end TM
/-! two rows and columns -/
namespace TM
def Ht (P e : Int) : Prop := e = 0 ∨ P < 2 * e ∨ 2 * e < -P
theorem Ht.ng {P e : Int} (h : Ht P e) : Ht P (-e) := by unfold Ht at *; omega
theorem Ht.le {P Q e : Int} (h : Ht P e) (hq : Q ≤ P) : Ht Q e := by unfold Ht at *; omega
theorem sm2 {P a z : Int} (hP : 0 < P) (hz : P < 2 * z ∨ 2 * z < -P) (h : (0 < z ∧ z < a ∧ a ≤ P) ∨ (z < 0 ∧ a < z ∧ -P ≤ a)) : ¬ Ht P (a.fmod z) := by
  rcases h with ⟨h1, h2, h3⟩ | ⟨h1, h2, h3⟩
  · rw [fm_pp h2 (by omega)]
    unfold Ht
    omega
  · rw [fm_nn h2 (by omega)]
    unfold Ht
    omega
section
variable {a : Nat} {M M' : Mx} {r c : Nat}
theorem cross2_no {P : Int} (hP : 0 < P) (h : Stp a M M' r c) (p : Pc a M) (f : Fl a M) (hPa : (M a a).natAbs ≤ P.natAbs) (g : ∀ i j, a ≤ i → a ≤ j → Ht P (M i j)) (g' : ∀ i j, a ≤ i → a ≤ j → Ht P (M' i j)) : r ≠ a ∧ c ≠ a := by
  have hl := h.lt p f
  have hg := (g r c h.lr h.lc).resolve_left h.nz
  have e := h.at
  have lr := h.lr
  have lc := h.lc
  constructor
  · intro hr
    have hr := hr.symm
    subst hr
    have hc : a < c := by
      rcases Nat.lt_or_eq_of_le lc with q | q
      · exact q
      · subst q; omega
    have h2 := p.row c hc
    have k := h.cl.rw_ c hc
    rw [e] at k
    have e2 : Nof M a a c a c = M a a := by simp only [Nof, sw_aa, sw_r]
    rw [e2] at k
    have := g' a c (Nat.le_refl _) (by omega)
    rw [k] at this
    exact sm2 hP hg (by omega) this
  · intro hc
    have hc := hc.symm
    subst hc
    have hr : a < r := by
      rcases Nat.lt_or_eq_of_le lr with q | q
      · exact q
      · subst q; omega
    have h2 := p.col r hr
    have k := h.cl.cl r hr
    rw [e] at k
    have e2 : Nof M a r a r a = M a a := by simp only [Nof, sw_aa, sw_r]
    rw [e2] at k
    have := g' r a (by omega) (Nat.le_refl _)
    rw [k] at this
    exact sm2 hP hg (by omega) this
end
def W2 (a : Nat) (M : Mx) : Prop := ∀ i j, a + 2 ≤ i ∨ a + 2 ≤ j → M i j = 0
theorem W2.lt {a : Nat} {M : Mx} (h : W2 a M) {i j : Nat} (q : M i j ≠ 0) : i < a + 2 ∧ j < a + 2 := by
  constructor
  · exact Classical.byContradiction fun z => q (h i j (.inl (by omega)))
  · exact Classical.byContradiction fun z => q (h i j (.inr (by omega)))
theorem one_of {a i : Nat} (h1 : a < i) (h2 : i < a + 2) : i = a + 1 := by omega
/-- what a remainder becomes, of the other sign -/
theorem cr2 {P r z : Int} (hP : 0 < P) (hz : P < 2 * z ∨ 2 * z < -P) (r0 : 0 ≤ r) (rP : r < P) (hr : r ≠ 0 → z.natAbs < r.natAbs) (g : Ht P (r.fmod z)) : (r = 0 ∧ r.fmod z = 0) ∨ (z < 0 ∧ -z < r ∧ r.fmod z = r + 2 * z) := by
  by_cases h0 : r = 0
  · left
    exact ⟨h0, by rw [h0, Int.zero_fmod]⟩
  · right
    have h1 := hr h0
    by_cases hp : 0 < z
    · exact absurd g (sm2 hP hz (.inl ⟨hp, by omega, by omega⟩))
    · have hn : z < 0 := by omega
      exact ⟨hn, by omega, fm_pn (by omega) (by omega) hn⟩
section
variable {a : Nat} {M0 M1 M2 : Mx} {r1 c1 r2 c2 : Nat}
theorem ph2_p (w : W2 a M0) (w1 : W2 a M1) (p : Pc a M0) (f0 : Fl a M0) (f1 : Fl a M1) (h1 : Stp a M0 M1 r1 c1) (h2 : Stp a M1 M2 r2 c2) (hp : 0 < M0 a a)
    (g0 : ∀ i j, a ≤ i → a ≤ j → Ht (M0 a a) (M0 i j)) (g1 : ∀ i j, a ≤ i → a ≤ j → Ht (M0 a a) (M1 i j)) (g2 : ∀ i j, a ≤ i → a ≤ j → Ht (M0 a a) (M2 i j)) : False := by
  obtain ⟨q1, q2⟩ := cross2_no hp h1 p f0 (Nat.le_refl _) g0 g1
  have l1 := h1.lt p f0
  have l2 := h2.lt h1.pc f1
  rw [h1.cen] at l2
  obtain ⟨q3, q4⟩ := cross2_no hp h2 h1.pc f1 (by rw [h1.cen]; omega) g1 g2
  have wa := w.lt h1.nz
  have wb := w1.lt h2.nz
  have er1 : r1 = a + 1 := one_of (lt_of h1.lr q1) wa.1
  have ec1 : c1 = a + 1 := one_of (lt_of h1.lc q2) wa.2
  have er2 : r2 = a + 1 := one_of (lt_of h2.lr q3) wb.1
  have ec2 : c2 = a + 1 := one_of (lt_of h2.lc q4) wb.2
  subst er1 ec1 er2 ec2
  have gz := (g0 _ _ h1.lr h1.lc).resolve_left h1.nz
  have st := h1.st q1 q2
  have k := h1.cl
  have b1 := k.rw_ (a + 1) (by omega)
  have b2 := k.cl (a + 1) (by omega)
  have b5 := k.inn (a + 1) (a + 1) (by omega) (by omega)
  rw [h1.at] at b1 b2 b5
  simp only [Nof, sw_a, sw_r] at b1 b2 b5
  have x1 := p.row (a + 1) (by omega)
  have x2 := p.col (a + 1) (by omega)
  have gr := g1 a (a + 1) (Nat.le_refl _) (by omega)
  have gs := g1 (a + 1) a (by omega) (Nat.le_refl _)
  rw [b1] at gr
  rw [b2] at gs
  have t1 := cr2 hp gz (by omega) (by omega) st.2 gr
  have t2 := cr2 hp gz (by omega) (by omega) st.1 gs
  rw [b1, b2] at b5
  have z0 := h1.nz
  clear gr gs x1 x2 g0 g1 g2 w w1
  generalize M0 (a + 1) (a + 1) = z at *
  generalize M0 (a + 1) a = r at *
  generalize M0 a (a + 1) = s at *
  generalize M0 a a = P at *
  generalize M1 (a + 1) (a + 1) = α at *
  have : P ≤ α := by
    rcases t1 with ⟨u1, u2⟩ | ⟨u0, u1, u2⟩
    · rw [u2, u1] at b5
      have : α = P := mul_cancel z0 (by rw [b5]; simp)
      omega
    · rcases t2 with ⟨v1, v2⟩ | ⟨v0, v1, v2⟩
      · rw [v2, v1] at b5
        have : α = P := mul_cancel z0 (by rw [b5]; simp)
        omega
      · rw [u2, v2] at b5
        have : α = P + 2 * s + 2 * r + 4 * z := mul_cancel z0 (by rw [b5]; grind)
        omega
  omega
theorem ph2 (w : W2 a M0) (w1 : W2 a M1) (p : Pc a M0) (f0 : Fl a M0) (f1 : Fl a M1) (h1 : Stp a M0 M1 r1 c1) (h2 : Stp a M1 M2 r2 c2)
    (g0 : ∀ i j, a ≤ i → a ≤ j → Ht (M0 a a).natAbs (M0 i j)) (g1 : ∀ i j, a ≤ i → a ≤ j → Ht (M0 a a).natAbs (M1 i j)) (g2 : ∀ i j, a ≤ i → a ≤ j → Ht (M0 a a).natAbs (M2 i j)) : False := by
  rcases Int.lt_or_lt_of_ne p.nz with q | q
  · have e : neg M0 a a = -(M0 a a) := rfl
    exact ph2_p (fun i j hij => by show -(M0 i j) = 0; rw [w i j hij]; rfl) (fun i j hij => by show -(M1 i j) = 0; rw [w1 i j hij]; rfl) p.ng f0.ng f1.ng h1.ng h2.ng (by rw [e]; omega)
      (fun i j hi hj => (g0 i j hi hj).ng.le (by rw [e]; omega)) (fun i j hi hj => (g1 i j hi hj).ng.le (by rw [e]; omega)) (fun i j hi hj => (g2 i j hi hj).ng.le (by rw [e]; omega))
  · exact ph2_p w w1 p f0 f1 h1 h2 q (fun i j hi hj => (g0 i j hi hj).le (by omega)) (fun i j hi hj => (g1 i j hi hj).le (by omega)) (fun i j hi hj => (g2 i j hi hj).le (by omega))
end
end TM
/-! How long it takes and how great the numbers grow. -/
namespace TM
/-- how often 15/16 of a number can be taken -/
def wt (p : Nat) : Nat := if h : p = 0 then 0 else wt (15 * p / 16) + 1
termination_by p
decreasing_by omega
theorem wt_zero : wt 0 = 0 := by rw [wt]; simp
theorem wt_pos {p : Nat} (h : 0 < p) : wt p = wt (15 * p / 16) + 1 := by rw [wt]; simp [Nat.pos_iff_ne_zero.mp h]
theorem wt_mono : ∀ (p q : Nat), q ≤ p → wt q ≤ wt p := by
  intro p
  induction p using Nat.strongRecOn with
  | _ p ih =>
    intro q hq
    rcases Nat.eq_zero_or_pos q with e | e
    · subst e; rw [wt_zero]; exact Nat.zero_le _
    · rw [wt_pos e, wt_pos (by omega : 0 < p)]
      have := ih (15 * p / 16) (by omega) (15 * q / 16) (by omega)
      omega
theorem wt_drop {p q : Nat} (h : 16 * q ≤ 15 * p) (hp : 0 < p) : wt q + 1 ≤ wt p := by
  rw [wt_pos hp]
  have := wt_mono (15 * p / 16) q (by omega)
  omega
theorem wt_one (p : Nat) : wt p ≤ wt (15 * p / 16) + 1 := by
  rcases Nat.eq_zero_or_pos p with e | e
  · subst e; rw [wt_zero]; exact Nat.zero_le _
  · rw [wt_pos e]; exact Nat.le_refl _
theorem wt_half (p : Nat) : wt p ≤ wt (p / 2) + 11 := by
  have s : ∀ {x y : Nat}, 15 * x / 16 = y → 16 * y ≤ 15 * x ∧ wt x ≤ wt y + 1 := fun {x y} h => ⟨by omega, by have := wt_one x; rw [h] at this; exact this⟩
  obtain ⟨a1, b1⟩ := s (x := p) rfl
  obtain ⟨a2, b2⟩ := s (x := 15 * p / 16) rfl
  generalize 15 * p / 16 = x1 at *
  obtain ⟨a3, b3⟩ := s (x := 15 * x1 / 16) rfl
  generalize 15 * x1 / 16 = x2 at *
  obtain ⟨a4, b4⟩ := s (x := 15 * x2 / 16) rfl
  generalize 15 * x2 / 16 = x3 at *
  obtain ⟨a5, b5⟩ := s (x := 15 * x3 / 16) rfl
  generalize 15 * x3 / 16 = x4 at *
  obtain ⟨a6, b6⟩ := s (x := 15 * x4 / 16) rfl
  generalize 15 * x4 / 16 = x5 at *
  obtain ⟨a7, b7⟩ := s (x := 15 * x5 / 16) rfl
  generalize 15 * x5 / 16 = x6 at *
  obtain ⟨a8, b8⟩ := s (x := 15 * x6 / 16) rfl
  generalize 15 * x6 / 16 = x7 at *
  obtain ⟨a9, b9⟩ := s (x := 15 * x7 / 16) rfl
  generalize 15 * x7 / 16 = x8 at *
  obtain ⟨a10, b10⟩ := s (x := 15 * x8 / 16) rfl
  generalize 15 * x8 / 16 = x9 at *
  obtain ⟨a11, b11⟩ := s (x := 15 * x9 / 16) rfl
  generalize 15 * x9 / 16 = x10 at *
  generalize 15 * x10 / 16 = x11 at *
  have h : x11 ≤ p / 2 := by clear s b1 b2 b3 b4 b5 b6 b7 b8 b9 b10 b11; omega
  have := wt_mono _ _ h
  clear s a1 a2 a3 a4 a5 a6 a7 a8 a9 a10 a11
  omega
theorem wt_bits : ∀ (b p : Nat), p < 2 ^ b → wt p ≤ 11 * b
  | 0, p, h => by
    have : p = 0 := by simpa using h
    rw [this, wt_zero]; exact Nat.zero_le _
  | b + 1, p, h => by
    have h1 := wt_bits b (p / 2) (by rw [Nat.pow_succ] at h; omega)
    have := wt_half p
    omega
theorem lg_drop {p q : Nat} (h : 2 * q ≤ p) (hq : 0 < q) : q.log2 + 1 ≤ p.log2 := by
  have h1 : 2 ^ q.log2 ≤ q := Nat.log2_self_le (by omega)
  have h2 : 2 ^ (q.log2 + 1) ≤ p := by rw [Nat.pow_succ]; omega
  exact (Nat.le_log2 (by omega)).mpr h2
/-! 3 by 3 minors stay, in a table of three rows and columns -/
theorem Clr.B3z {a : Nat} {N M : Mx} (h : Clr a N M) {X3 : Nat} (zr : ∀ i j, a + 3 ≤ i → M i j = 0) (zc : ∀ i j, a + 3 ≤ j → M i j = 0) (h3 : ∀ i k j l, a < i → a < k → a < j → a < l → (d3 N a i k a j l).natAbs ≤ X3) :
    ∀ i k q j l o, a ≤ i → a ≤ k → a ≤ q → a ≤ j → a ≤ l → a ≤ o → (d3 M i k q j l o).natAbs ≤ X3 := by
  have rz : ∀ i k q j l o, (∀ y, M i y = 0) → d3 M i k q j l o = 0 := fun i k q j l o hz => by simp only [d3, hz]; grind
  have cz : ∀ i k q j l o, (∀ y, M y j = 0) → d3 M i k q j l o = 0 := fun i k q j l o hz => by simp only [d3, d2, hz]; grind
  have r12 : ∀ i k j l o, d3 M i i k j l o = 0 := fun i k j l o => by simp only [d3, d2]; grind
  have r13 : ∀ i k j l o, d3 M i k i j l o = 0 := fun i k j l o => by simp only [d3, d2]; grind
  have r23 : ∀ i k j l o, d3 M k i i j l o = 0 := fun i k j l o => by simp only [d3, d2]; grind
  have c12 : ∀ i k q j l, d3 M i k q j j l = 0 := fun i k q j l => by simp only [d3, d2]; grind
  have c13 : ∀ i k q j l, d3 M i k q j l j = 0 := fun i k q j l => by simp only [d3, d2]; grind
  have c23 : ∀ i k q j l, d3 M i k q l j j = 0 := fun i k q j l => by simp only [d3, d2]; grind
  have colsN : ∀ i k q j l o, a < j → a < l → a < o → d3 M i k q j l o = 0 := fun i k q j l o hj hl ho => by
    by_cases g1 : a + 3 ≤ j
    · exact cz _ _ _ _ _ _ fun y => zc y j g1
    by_cases g2 : a + 3 ≤ l
    · rw [d3_c12, cz _ _ _ _ _ _ fun y => zc y l g2]; rfl
    by_cases g3 : a + 3 ≤ o
    · rw [d3_c13, cz _ _ _ _ _ _ fun y => zc y o g3]; rfl
    have : j = l ∨ j = o ∨ l = o := by omega
    rcases this with e | e | e <;> subst e
    · exact c12 _ _ _ _ _
    · exact c13 _ _ _ _ _
    · exact c23 _ _ _ _ _
  have rowsN : ∀ i k q j l o, a < i → a < k → a < q → d3 M i k q j l o = 0 := fun i k q j l o hi hk hq => by
    by_cases g1 : a + 3 ≤ i
    · exact rz _ _ _ _ _ _ fun y => zr i y g1
    by_cases g2 : a + 3 ≤ k
    · rw [d3_r12, rz _ _ _ _ _ _ fun y => zr k y g2]; rfl
    by_cases g3 : a + 3 ≤ q
    · rw [d3_r13, rz _ _ _ _ _ _ fun y => zr q y g3]; rfl
    have : i = k ∨ i = q ∨ k = q := by omega
    rcases this with e | e | e <;> subst e
    · exact r12 _ _ _ _ _
    · exact r13 _ _ _ _ _
    · exact r23 _ _ _ _ _
  have cols : ∀ i k, a < i → a < k → ∀ j l o, a ≤ j → a ≤ l → a ≤ o → (d3 M a i k j l o).natAbs ≤ X3 := fun i k hi hk =>
    norm3 (fun x y z hp => by rw [d3_c12]; omega) (fun x y z hp => by rw [d3_c13]; omega) (fun x y z hx hy hz => by rw [colsN _ _ _ _ _ _ hx hy hz]; simp) (fun y z hy hz => by rw [h.A3 hi hk hy hz]; exact h3 i k y z hi hk hy hz) (fun z => by rw [c12]; simp)
  have rows : ∀ i k q, a ≤ i → a ≤ k → a ≤ q → ∀ j l o, a ≤ j → a ≤ l → a ≤ o → (d3 M i k q j l o).natAbs ≤ X3 :=
    norm3 (fun x y z hp j l o hj hl ho => by rw [d3_r12]; have := hp j l o hj hl ho; omega) (fun x y z hp j l o hj hl ho => by rw [d3_r13]; have := hp j l o hj hl ho; omega)
      (fun i k q hi hk hq j l o hj hl ho => by rw [rowsN _ _ _ _ _ _ hi hk hq]; simp) cols (fun z j l o _ _ _ => by rw [r12]; simp)
  exact fun i k q j l o hi hk hq hj hl ho => rows i k q hi hk hq j l o hj hl ho
/-- 2 by 2 minors stay, in a table of two rows and columns -/
theorem Clr.B2z {a : Nat} {N M : Mx} (h : Clr a N M) {X2 : Nat} (zr : ∀ i j, a + 2 ≤ i → M i j = 0) (zc : ∀ i j, a + 2 ≤ j → M i j = 0) (h2 : ∀ i j, a < i → a < j → (d2 N a i a j).natAbs ≤ X2) :
    ∀ i k j l, a ≤ i → a ≤ k → a ≤ j → a ≤ l → (d2 M i k j l).natAbs ≤ X2 := by
  intro i k j l hi hk hj hl
  have rz : ∀ i k j l, (∀ y, M i y = 0) → d2 M i k j l = 0 := fun i k j l hz => by simp only [d2, hz]; grind
  have cz : ∀ i k j l, (∀ y, M y j = 0) → d2 M i k j l = 0 := fun i k j l hz => by simp only [d2, hz]; grind
  have r : ∀ i k j, d2 M i i k j = 0 := fun i k j => by simp only [d2]; grind
  have c : ∀ i k j, d2 M i k j j = 0 := fun i k j => by simp only [d2]; grind
  by_cases g1 : a + 2 ≤ i
  · rw [rz _ _ _ _ fun y => zr i y g1]; simp
  by_cases g2 : a + 2 ≤ k
  · rw [d2_rs, rz _ _ _ _ fun y => zr k y g2]; simp
  by_cases g3 : a + 2 ≤ j
  · rw [cz _ _ _ _ fun y => zc y j g3]; simp
  by_cases g4 : a + 2 ≤ l
  · rw [d2_cs, cz _ _ _ _ fun y => zc y l g4]; simp
  have base : (d2 M a (a + 1) a (a + 1)).natAbs ≤ X2 := by rw [h.A2 (by omega) (by omega)]; exact h2 _ _ (by omega) (by omega)
  have ci : i = a ∨ i = a + 1 := by omega
  have ck : k = a ∨ k = a + 1 := by omega
  have cj : j = a ∨ j = a + 1 := by omega
  have cl : l = a ∨ l = a + 1 := by omega
  clear g1 g2 g3 g4 hi hk hj hl
  rcases ci with e | e <;> subst e <;> rcases ck with e | e <;> subst e
  · rw [r]; simp
  · rcases cj with e | e <;> subst e <;> rcases cl with e | e <;> subst e
    · rw [c]; simp
    · exact base
    · rw [d2_cs]; omega
    · rw [c]; simp
  · rcases cj with e | e <;> subst e <;> rcases cl with e | e <;> subst e
    · rw [c]; simp
    · rw [d2_rs]; omega
    · rw [d2_rs, d2_cs]; omega
    · rw [c]; simp
  · rw [r]; simp
end TM
/-! The measure of the turning, and how great its numbers are. -/
namespace TM
def Z4 (M : Mx) : Prop := ∀ i j, 4 ≤ i ∨ 4 ≤ j → M i j = 0
def c2 : Nat := 17513
def c1 : Nat := 20334
def x2 : Nat → Nat
  | 0 => 2 ^ 40
  | t + 1 => 2 ^ (55 + 4 * t)
def x3 (t : Nat) : Nat := 2 ^ (54 + 4 * t)
structure G0 (t : Nat) (M : Mx) : Prop where
  t3 : t ≤ 3
  sm : ∃ i j, M i j ≠ 0 ∧ (M i j).natAbs + t ≤ 4
  b2 : ∀ i k j l, (d2 M i k j l).natAbs ≤ x2 t
  b3 : ∀ i k q j l o, (d3 M i k q j l o).natAbs ≤ x3 t
  b4 : ∀ i k q t j l o e, (d4 M i k q t j l o e).natAbs ≤ 2 ^ 51
  be : ∀ i j, (M i j).natAbs < 2 ^ 64
structure G1b (t : Nat) (M : Mx) : Prop where
  b2 : ∀ i k j l, 1 ≤ i → 1 ≤ k → 1 ≤ j → 1 ≤ l → (d2 M i k j l).natAbs + 2 ^ 195 ≤ 4 ^ t * 2 ^ 196
  b3 : ∀ i k q j l o, 1 ≤ i → 1 ≤ k → 1 ≤ q → 1 ≤ j → 1 ≤ l → 1 ≤ o → (d3 M i k q j l o).natAbs ≤ 2 ^ 195
  be : ∀ i j, 1 ≤ i → 1 ≤ j → (M i j).natAbs ≤ 4 ^ t * 2 ^ 196 + 2 ^ 64
def GtM (a : Nat) (P : Nat) (M : Mx) : Prop := ∀ i j, a ≤ i → a ≤ j → Gt P (M i j)
def HtM (a : Nat) (P : Nat) (M : Mx) : Prop := ∀ i j, a ≤ i → a ≤ j → Ht P (M i j)
structure Hd (a P : Nat) (M : Mx) : Prop where
  z : Z4 M
  p : Pc a M
  f : Fl a M
def R1 (P : Nat) : Nat → Mx → Prop
  | 0, M => (M 1 1).natAbs = P
  | 1, M => ∃ M0 r c, Hd 1 P M0 ∧ (M0 1 1).natAbs = P ∧ GtM 1 P M0 ∧ Stp 1 M0 M r c
  | 2, M => ∃ M0 r c M1 r' c', Hd 1 P M0 ∧ (M0 1 1).natAbs = P ∧ GtM 1 P M0 ∧ Stp 1 M0 M1 r c ∧ Hd 1 P M1 ∧ GtM 1 P M1 ∧ Stp 1 M1 M r' c'
  | _, M => ∃ i j, 1 ≤ i ∧ 1 ≤ j ∧ M i j ≠ 0 ∧ 16 * (M i j).natAbs ≤ 15 * P
def R2 (P : Nat) : Nat → Mx → Prop
  | 0, M => (M 2 2).natAbs = P
  | 1, M => ∃ M0 r c, Hd 2 P M0 ∧ (M0 2 2).natAbs = P ∧ HtM 2 P M0 ∧ Stp 2 M0 M r c
  | _, M => ∃ i j, 2 ≤ i ∧ 2 ≤ j ∧ M i j ≠ 0 ∧ 2 * (M i j).natAbs ≤ P
def G1 (q : Nat) (M : Mx) : Prop := (G1b 0 M ∧ (∀ i j, 1 ≤ i → 1 ≤ j → (M i j).natAbs < 2 ^ 64) ∧ q = c1) ∨
  ∃ t P k, G1b t M ∧ Hd 1 P M ∧ R1 P k M ∧ 0 < P ∧ P < 2 ^ 64 ∧ k ≤ 3 ∧ q + k = c2 + 4 * wt P + 3 ∧ t + q ≤ c2 + 2820
structure G2b (M : Mx) : Prop where
  b2 : ∀ i k j l, 2 ≤ i → 2 ≤ k → 2 ≤ j → 2 ≤ l → (d2 M i k j l).natAbs ≤ 2 ^ 5837
  be : ∀ i j, 2 ≤ i → 2 ≤ j → (M i j).natAbs ≤ 2 ^ 5838
def G2 (q : Nat) (M : Mx) : Prop := (G2b M ∧ (∀ i j, 2 ≤ i → 2 ≤ j → (M i j).natAbs < 2 ^ 5837) ∧ q = c2) ∨
  ∃ P k, G2b M ∧ Hd 2 P M ∧ R2 P k M ∧ 0 < P ∧ P < 2 ^ 5837 ∧ k ≤ 2 ∧ q + k = 2 + 3 * P.log2 + 2
def Gm (q a : Nat) (M : Mx) : Prop := Z4 M ∧ match a with
  | 0 => ∃ t, G0 t M ∧ q + t = c1 + 4
  | 1 => G1 q M
  | 2 => G2 q M
  | 3 => (∀ i j, 3 ≤ i → 3 ≤ j → (M i j).natAbs ≤ 2 ^ 5838) ∧ q = 1
  | _ => q = 0
theorem pw {a b : Nat} (h : a ≤ b) : (2 : Nat) ^ a ≤ 2 ^ b := Nat.pow_le_pow_right (by decide) h
theorem four (t : Nat) : (4 : Nat) ^ t * 2 ^ 196 = 2 ^ (2 * t + 196) := by
  rw [show (4 : Nat) = 2 ^ 2 from rfl, ← Nat.pow_mul, ← Nat.pow_add]
theorem Fl.succ {a : Nat} {M : Mx} (p : Pc a M) (f : Fl a M) : 2 ≤ (M a a).natAbs := by
  obtain ⟨i, hi, q | q⟩ := f
  · have := p.col i hi; omega
  · have := p.row i hi; omega
theorem Fl.small {a : Nat} {M : Mx} (p : Pc a M) (f : Fl a M) : ∃ i j, a ≤ i ∧ a ≤ j ∧ M i j ≠ 0 ∧ (M i j).natAbs < (M a a).natAbs := by
  obtain ⟨i, hi, q | q⟩ := f
  · exact ⟨i, a, by omega, Nat.le_refl _, q, by have := p.col i hi; omega⟩
  · exact ⟨a, i, Nat.le_refl _, by omega, q, by have := p.row i hi; omega⟩
section
variable {M M' : Mx} {r c q : Nat}
theorem Gm.ent {a : Nat} (g : Gm q a M) (ha : a < 4) : ∀ i j, a ≤ i → a ≤ j → (M i j).natAbs < 2 ^ 5840 := by
  intro i j hi hj
  obtain ⟨z, g⟩ := g
  have ca : a = 0 ∨ a = 1 ∨ a = 2 ∨ a = 3 := by omega
  rcases ca with e | e | e | e <;> subst e
  · obtain ⟨t, g, _⟩ := g
    exact Nat.lt_of_lt_of_le (g.be i j) (pw (by decide))
  · rcases g with ⟨_, g, _⟩ | ⟨t, P, k, g, _, _, _, _, hk, hq, ht⟩
    · exact Nat.lt_of_lt_of_le (g i j hi hj) (pw (by decide))
    · have h1 := g.be i j hi hj
      rw [four] at h1
      have h2 : (2 : Nat) ^ (2 * t + 196) ≤ 2 ^ 5838 := pw (by unfold c2 at *; omega)
      have h3 : (2 : Nat) ^ 64 ≤ 2 ^ 5838 := pw (by decide)
      have h4 : (2 : Nat) ^ 5840 = 4 * 2 ^ 5838 := by rw [show 5840 = 2 + 5838 from rfl, Nat.pow_add]
      have h5 : 0 < (2 : Nat) ^ 5838 := Nat.pow_pos (by decide)
      generalize (2 : Nat) ^ 5838 = X at *
      generalize (2 : Nat) ^ 5840 = Y at *
      omega
  · have h4 : (2 : Nat) ^ 5838 < 2 ^ 5840 := Nat.pow_lt_pow_right (by decide) (by decide)
    rcases g with ⟨_, g, _⟩ | ⟨P, k, g, _⟩
    · exact Nat.lt_of_lt_of_le (g i j hi hj) (pw (by decide))
    · exact Nat.lt_of_le_of_lt (g.be i j hi hj) h4
  · have h4 : (2 : Nat) ^ 5838 < 2 ^ 5840 := Nat.pow_lt_pow_right (by decide) (by decide)
    exact Nat.lt_of_le_of_lt (g.1 i j hi hj) h4
theorem Gm.q_le {a : Nat} (g : Gm q a M) : q ≤ c1 + 4 := by
  obtain ⟨z, g⟩ := g
  have ca : a = 0 ∨ a = 1 ∨ a = 2 ∨ a = 3 ∨ ∃ b, a = b + 4 := by
    by_cases h : a < 4
    · omega
    · exact .inr (.inr (.inr (.inr ⟨a - 4, by omega⟩)))
  rcases ca with e | e | e | e | ⟨b, e⟩ <;> subst e
  · obtain ⟨t, _, g⟩ := g; omega
  · rcases g with ⟨_, _, g⟩ | ⟨t, P, k, _, _, _, _, _, hk, hq, ht⟩
    · omega
    · unfold c1 c2 at *; omega
  · rcases g with ⟨_, _, g⟩ | ⟨P, k, _, _, _, h0, hP, hk, hq⟩
    · unfold c1 c2 at *; omega
    · have := (Nat.log2_lt (by omega)).mpr hP
      unfold c1 at *; omega
  · have := g.2; omega
  · have : q = 0 := g
    omega
theorem d2_N {a : Nat} (i k j l : Nat) : d2 (Nof M a r c) i k j l = d2 M (sw a r i) (sw a r k) (sw a c j) (sw a c l) := rfl
theorem d3_N {a : Nat} (i k q j l o : Nat) : d3 (Nof M a r c) i k q j l o = d3 M (sw a r i) (sw a r k) (sw a r q) (sw a c j) (sw a c l) (sw a c o) := rfl
theorem d4_N {a : Nat} (i k q t j l o e : Nat) : d4 (Nof M a r c) i k q t j l o e = d4 M (sw a r i) (sw a r k) (sw a r q) (sw a r t) (sw a c j) (sw a c l) (sw a c o) (sw a c e) := rfl
theorem x2_step : ∀ t, t < 3 → 4 * x2 t + x3 t ≤ x2 (t + 1) := by decide
theorem x3_step : ∀ t, t < 3 → 9 * x3 t + 2 ^ 51 ≤ x3 (t + 1) := by decide
theorem x2_le : ∀ t, t ≤ 3 → x2 t + 4 < 2 ^ 64 := by decide
/-- from entries to minors -/
theorem bd2 {a : Nat} {E : Nat} (h : ∀ i j, a ≤ i → a ≤ j → (M i j).natAbs ≤ E) : ∀ i k j l, a ≤ i → a ≤ k → a ≤ j → a ≤ l → (d2 M i k j l).natAbs ≤ 2 * (E * E) := by
  intro i k j l hi hk hj hl
  have h1 := mul_bd (h i j hi hj) (h k l hk hl)
  have h2 := mul_bd (h i l hi hl) (h k j hk hj)
  have h3 := Int.natAbs_sub_le (M i j * M k l) (M i l * M k j)
  unfold d2
  omega
theorem bd3 {a : Nat} {E : Nat} (h : ∀ i j, a ≤ i → a ≤ j → (M i j).natAbs ≤ E) : ∀ i k q j l o, a ≤ i → a ≤ k → a ≤ q → a ≤ j → a ≤ l → a ≤ o → (d3 M i k q j l o).natAbs ≤ 6 * (E * (E * E)) := by
  intro i k q j l o hi hk hq hj hl ho
  have b := bd2 h
  have h1 := mul_bd (h i j hi hj) (b k q l o hk hq hl ho)
  have h2 := mul_bd (h i l hi hl) (b k q j o hk hq hj ho)
  have h3 := mul_bd (h i o hi ho) (b k q j l hk hq hj hl)
  have h4 := Int.natAbs_sub_le (M i j * d2 M k q l o) (M i l * d2 M k q j o)
  have h5 := Int.natAbs_add_le (M i j * d2 M k q l o - M i l * d2 M k q j o) (M i o * d2 M k q j l)
  have e : E * (2 * (E * E)) = 2 * (E * (E * E)) := by rw [Nat.mul_left_comm]
  rw [e] at h1 h2 h3
  unfold d3
  omega
theorem step0 (t : Nat) (g : G0 t M) (h : Stp 0 M M' r c) (z' : Z4 M') : (Fl 0 M' → t < 3 ∧ G0 (t + 1) M') ∧ ∀ i j, (M' i j).natAbs < 2 ^ 64 := by
  obtain ⟨i0, j0, n0, s0⟩ := g.sm
  have hp : (M r c).natAbs + t ≤ 4 := by have := h.le i0 j0 (Nat.zero_le _) (Nat.zero_le _) n0; omega
  have hp4 : (Nof M 0 r c 0 0).natAbs ≤ 4 := by rw [h.at]; omega
  have t3 := g.t3
  have B1 := h.cl.B1 (X2 := x2 t) (p := 4) (fun k l _ _ => by rw [d2_N]; exact g.b2 _ _ _ _) hp4
  have be : ∀ i j, (M' i j).natAbs < 2 ^ 64 := fun i j => by
    have := B1 i j (Nat.zero_le _) (Nat.zero_le _)
    have := x2_le t t3
    omega
  refine ⟨fun f => ?_, be⟩
  have hs := Fl.succ h.pc f
  rw [h.cen] at hs
  have t2 : t < 3 := by omega
  obtain ⟨i1, j1, _, _, n1, s1⟩ := Fl.small h.pc f
  rw [h.cen] at s1
  refine ⟨t2, ⟨by omega, ⟨i1, j1, n1, by omega⟩, fun i k j l => ?_, fun i k q j l o => ?_, ?_, be⟩⟩
  · have := h.cl.B2 (X2 := x2 t) (X3 := x3 t) (fun k l _ _ => by rw [d2_N]; exact g.b2 _ _ _ _) (fun i k j l _ _ _ _ => by rw [d3_N]; exact g.b3 _ _ _ _ _ _) i k j l (Nat.zero_le _) (Nat.zero_le _) (Nat.zero_le _) (Nat.zero_le _)
    exact Nat.le_trans this (x2_step t t2)
  · have := h.cl.B3 (X3 := x3 t) (X4 := 2 ^ 51) (fun i k j l _ _ _ _ => by rw [d3_N]; exact g.b3 _ _ _ _ _ _) (fun i k q j l o _ _ _ _ _ _ => by rw [d4_N]; exact g.b4 _ _ _ _ _ _ _ _) i k q j l o (Nat.zero_le _) (Nat.zero_le _) (Nat.zero_le _) (Nat.zero_le _) (Nat.zero_le _) (Nat.zero_le _)
    exact Nat.le_trans this (x3_step t t2)
  · exact h.cl.B4 (fun i j hi => z' i j (.inl hi)) (fun i j hj => z' i j (.inr hj)) (fun i k q j l o _ _ _ _ _ _ => by rw [d4_N]; exact g.b4 _ _ _ _ _ _ _ _)
/-- the sizes of the second stage -/
theorem step1b (t : Nat) (g : G1b t M) (h : Stp 1 M M' r c) (z' : Z4 M') (hp : (M r c).natAbs ≤ 2 ^ 64) : G1b (t + 1) M' := by
  have lr := h.lr
  have lc := h.lc
  have S : ∀ {x i : Nat}, 1 ≤ x → 1 ≤ i → 1 ≤ sw 1 x i := fun hx hi => sw_ge hx hi
  have hA : (2 : Nat) ^ 196 ≤ 4 ^ t * 2 ^ 196 := Nat.le_mul_of_pos_left _ (Nat.pow_pos (by decide))
  have h2 : ∀ k l, 1 < k → 1 < l → (d2 (Nof M 1 r c) 1 k 1 l).natAbs ≤ 4 ^ t * 2 ^ 196 - 2 ^ 195 := fun k l hk hl => by
    have := g.b2 _ _ _ _ (S lr (Nat.le_refl 1)) (S lr (Nat.le_of_lt hk)) (S lc (Nat.le_refl 1)) (S lc (Nat.le_of_lt hl))
    rw [d2_N]
    omega
  have h3 : ∀ i k j l, 1 < i → 1 < k → 1 < j → 1 < l → (d3 (Nof M 1 r c) 1 i k 1 j l).natAbs ≤ 2 ^ 195 := fun i k j l hi hk hj hl => by
    rw [d3_N]
    exact g.b3 _ _ _ _ _ _ (S lr (Nat.le_refl 1)) (S lr (Nat.le_of_lt hi)) (S lr (Nat.le_of_lt hk)) (S lc (Nat.le_refl 1)) (S lc (Nat.le_of_lt hj)) (S lc (Nat.le_of_lt hl))
  have e4 : (4 : Nat) ^ (t + 1) * 2 ^ 196 = 4 * (4 ^ t * 2 ^ 196) := by rw [Nat.pow_succ, Nat.mul_comm (4 ^ t) 4, Nat.mul_assoc]
  obtain ⟨A, eA⟩ : ∃ A, A = (4 : Nat) ^ t * 2 ^ 196 := ⟨_, rfl⟩
  rw [← eA] at e4 hA h2
  refine ⟨fun i k j l hi hk hj hl => ?_, ?_, fun i j hi hj => ?_⟩
  · have := h.cl.B2 h2 h3 i k j l hi hk hj hl
    rw [e4]
    clear eA h2 h3 S e4 hp
    omega
  · exact h.cl.B3z (fun i j hi => z' i j (.inl (by omega))) (fun i j hj => z' i j (.inr (by omega))) h3
  · have := h.cl.B1 h2 (p := 2 ^ 64) (by rw [h.at]; exact hp) i j hi hj
    rw [e4]
    clear eA h2 h3 S e4 hp
    omega
theorem w3 (z : Z4 M) : W3 1 M := fun i j h => z i j (by omega)
theorem w2 (z : Z4 M) : W2 2 M := fun i j h => z i j (by omega)
theorem notGt {a P : Nat} (h : ¬ GtM a P M) : ∃ i j, a ≤ i ∧ a ≤ j ∧ M i j ≠ 0 ∧ 16 * (M i j).natAbs ≤ 15 * P := by
  refine Classical.byContradiction fun hn => h fun i j hi hj => ?_
  unfold Gt
  by_cases e : M i j = 0
  · exact .inl e
  · by_cases e2 : 16 * (M i j).natAbs ≤ 15 * P
    · exact absurd ⟨i, j, hi, hj, e, e2⟩ hn
    · omega
theorem notHt {a P : Nat} (h : ¬ HtM a P M) : ∃ i j, a ≤ i ∧ a ≤ j ∧ M i j ≠ 0 ∧ 2 * (M i j).natAbs ≤ P := by
  refine Classical.byContradiction fun hn => h fun i j hi hj => ?_
  unfold Ht
  by_cases e : M i j = 0
  · exact .inl e
  · by_cases e2 : 2 * (M i j).natAbs ≤ P
    · exact absurd ⟨i, j, hi, hj, e, e2⟩ hn
    · omega
theorem Stp.gt {a P : Nat} (h : Stp a M M' r c) (hp : 15 * P < 16 * (M r c).natAbs) : GtM a P M := fun i j hi hj => by
  unfold Gt
  by_cases e : M i j = 0
  · exact .inl e
  · have := h.le i j hi hj e
    omega
theorem Stp.ht {a P : Nat} (h : Stp a M M' r c) (hp : P < 2 * (M r c).natAbs) : HtM a P M := fun i j hi hj => by
  unfold Ht
  by_cases e : M i j = 0
  · exact .inl e
  · have := h.le i j hi hj e
    omega
theorem step1 (g : G1 q M) (z : Z4 M) (h : Stp 1 M M' r c) (z' : Z4 M') : (Fl 1 M' → ∃ q', q' < q ∧ G1 q' M') ∧ (c2 < q) ∧ G2b M' ∧ ∀ i j, 2 ≤ i → 2 ≤ j → (M' i j).natAbs < 2 ^ 5837 := by
  have nz := h.nz
  have fin : ∀ t, t ≤ 2820 → G1b t M' → G2b M' ∧ ∀ i j, 2 ≤ i → 2 ≤ j → (M' i j).natAbs < 2 ^ 5837 := fun t ht g => by
    have e1 : (2 : Nat) ^ (2 * t + 196) ≤ 2 ^ 5836 := pw (by omega)
    have e2 : (2 : Nat) ^ 5837 = 2 * 2 ^ 5836 := by rw [show 5837 = 1 + 5836 from rfl, Nat.pow_add]
    have e3 : (2 : Nat) ^ 5838 = 4 * 2 ^ 5836 := by rw [show 5838 = 2 + 5836 from rfl, Nat.pow_add]
    have e4 : (2 : Nat) ^ 64 < 2 ^ 5836 := Nat.pow_lt_pow_right (by decide) (by decide)
    have be : ∀ i j, 2 ≤ i → 2 ≤ j → (M' i j).natAbs < 2 ^ 5837 := fun i j hi hj => by
      have := g.be i j (by omega) (by omega)
      rw [four] at this
      generalize (2 : Nat) ^ 5836 = X at *
      generalize (2 : Nat) ^ 5837 = Y at *
      omega
    refine ⟨⟨fun i k j l hi hk hj hl => ?_, fun i j hi hj => ?_⟩, be⟩
    · have := g.b2 i k j l (by omega) (by omega) (by omega) (by omega)
      rw [four] at this
      generalize (2 : Nat) ^ 5836 = X at *
      generalize (2 : Nat) ^ 5837 = Y at *
      omega
    · have := be i j hi hj
      generalize (2 : Nat) ^ 5836 = X at *
      generalize (2 : Nat) ^ 5837 = Y at *
      generalize (2 : Nat) ^ 5838 = Z at *
      omega
  rcases g with ⟨gb, ge, hq⟩ | ⟨t, P, k, gb, hd, hR, hP0, hP, hk, hq, ht⟩
  · have hp := ge r c h.lr h.lc
    have gb' := step1b 0 gb h z' (Nat.le_of_lt hp)
    refine ⟨fun f => ?_, by rw [hq]; decide, fin 1 (by decide) gb'⟩
    have hw := wt_bits 64 _ hp
    exact ⟨c2 + 4 * wt (M r c).natAbs + 3, by rw [hq]; unfold c1 c2; omega, .inr ⟨1, (M r c).natAbs, 0, gb', ⟨z', h.pc, f⟩, by show (M' 1 1).natAbs = _; rw [h.cen], by omega, hp, by decide, rfl, by unfold c2; omega⟩⟩
  · have hl := h.lt hd.p hd.f
    have hc1 : (M 1 1).natAbs ≤ 4 ^ t * 2 ^ 196 + 2 ^ 64 := gb.be 1 1 (by decide) (by decide)
    have w1 := wt_pos hP0
    -- the pivot is not above P
    have hpP : (M r c).natAbs < P := by
      match k, hR, hk with
      | 0, hR, _ =>
        have hR : (M 1 1).natAbs = P := hR
        omega
      | 1, hR, _ =>
        obtain ⟨M0, r0, c0, hd0, e0, g0, s0⟩ := hR
        have := s0.lt hd0.p hd0.f
        rw [s0.cen] at hl
        omega
      | 2, hR, _ =>
        obtain ⟨M0, r0, c0, M1, r1, c1, hd0, e0, g0, s0, hd1, g1, s1⟩ := hR
        have := s0.lt hd0.p hd0.f
        have h2 := s1.lt hd1.p hd1.f
        rw [s0.cen] at h2
        rw [s1.cen] at hl
        omega
      | 3, hR, _ =>
        obtain ⟨i, j, hi, hj, n, hs⟩ := hR
        have := h.le i j hi hj n
        omega
    have gb' := step1b t gb h z' (by omega)
    refine ⟨fun f => ?_, by omega, fin (t + 1) (by omega) gb'⟩
    have hd' : ∀ P', Hd 1 P' M' := fun _ => ⟨z', h.pc, f⟩
    by_cases hs : 16 * (M r c).natAbs ≤ 15 * P
    · have hdr := wt_drop hs hP0
      exact ⟨c2 + 4 * wt (M r c).natAbs + 3, by omega, .inr ⟨t + 1, (M r c).natAbs, 0, gb', hd' _, by show (M' 1 1).natAbs = _; rw [h.cen], by omega, by omega, by decide, rfl, by omega⟩⟩
    · have gt := h.gt (P := P) (by omega)
      match k, hR, hk with
      | 0, hR, _ => exact ⟨q - 1, by omega, .inr ⟨t + 1, P, 1, gb', hd' _, ⟨M, r, c, ⟨z, hd.p, hd.f⟩, hR, gt, h⟩, hP0, hP, by decide, by omega, by omega⟩⟩
      | 1, hR, _ =>
        obtain ⟨M0, r0, c0, hd0, e0, g0, s0⟩ := hR
        exact ⟨q - 1, by omega, .inr ⟨t + 1, P, 2, gb', hd' _, ⟨M0, r0, c0, M, r, c, hd0, e0, g0, s0, ⟨z, hd.p, hd.f⟩, gt, h⟩, hP0, hP, by decide, by omega, by omega⟩⟩
      | 2, hR, _ =>
        obtain ⟨M0, r0, c0, M1, r1, c1, hd0, e0, g0, s0, hd1, g1, s1⟩ := hR
        refine ⟨q - 1, by omega, .inr ⟨t + 1, P, 3, gb', hd' _, notGt fun g3 => ?_, hP0, hP, by decide, by omega, by omega⟩⟩
        subst e0
        exact ph3 (w3 hd0.z) (w3 hd1.z) (w3 z) hd0.p hd0.f hd1.f hd.f s0 s1 h g0 g1 gt g3
      | 3, hR, _ =>
        obtain ⟨i, j, hi, hj, n, hs2⟩ := hR
        have := h.le i j hi hj n
        omega
theorem step2 (g : G2 q M) (z : Z4 M) (h : Stp 2 M M' r c) (z' : Z4 M') : (Fl 2 M' → ∃ q', q' < q ∧ G2 q' M') ∧ 1 < q ∧ ∀ i j, 3 ≤ i → 3 ≤ j → (M' i j).natAbs ≤ 2 ^ 5838 := by
  have nz := h.nz
  have lr := h.lr
  have lc := h.lc
  have S : ∀ {x i : Nat}, 2 ≤ x → 2 ≤ i → 2 ≤ sw 2 x i := fun hx hi => sw_ge hx hi
  have e3 : (2 : Nat) ^ 5838 = 2 * 2 ^ 5837 := by rw [show 5838 = 1 + 5837 from rfl, Nat.pow_add]
  have stp : G2b M → (M r c).natAbs ≤ 2 ^ 5837 → G2b M' := fun g hp => by
    have h2 : ∀ k l, 2 < k → 2 < l → (d2 (Nof M 2 r c) 2 k 2 l).natAbs ≤ 2 ^ 5837 := fun k l hk hl => by
      rw [d2_N]
      exact g.b2 _ _ _ _ (S lr (Nat.le_refl 2)) (S lr (Nat.le_of_lt hk)) (S lc (Nat.le_refl 2)) (S lc (Nat.le_of_lt hl))
    refine ⟨h.cl.B2z (fun i j hi => z' i j (.inl (by omega))) (fun i j hj => z' i j (.inr (by omega))) h2, fun i j hi hj => ?_⟩
    have := h.cl.B1 h2 (p := 2 ^ 5837) (by rw [h.at]; exact hp) i j hi hj
    generalize (2 : Nat) ^ 5837 = X at *
    generalize (2 : Nat) ^ 5838 = Y at *
    omega
  rcases g with ⟨gb, ge, hq⟩ | ⟨P, k, gb, hd, hR, hP0, hP, hk, hq⟩
  · have hp := ge r c h.lr h.lc
    have gb' := stp gb (Nat.le_of_lt hp)
    refine ⟨fun f => ?_, by rw [hq]; decide, fun i j hi hj => gb'.be i j (by omega) (by omega)⟩
    have hw := (Nat.log2_lt (n := (M r c).natAbs) (by omega)).mpr hp
    exact ⟨2 + 3 * (M r c).natAbs.log2 + 2, by rw [hq]; unfold c2; omega, .inr ⟨(M r c).natAbs, 0, gb', ⟨z', h.pc, f⟩, by show (M' 2 2).natAbs = _; rw [h.cen], by omega, hp, by decide, rfl⟩⟩
  · have hl := h.lt hd.p hd.f
    have hpP : (M r c).natAbs < P := by
      match k, hR, hk with
      | 0, hR, _ =>
        have hR : (M 2 2).natAbs = P := hR
        omega
      | 1, hR, _ =>
        obtain ⟨M0, r0, c0, hd0, e0, g0, s0⟩ := hR
        have := s0.lt hd0.p hd0.f
        rw [s0.cen] at hl
        omega
      | 2, hR, _ =>
        obtain ⟨i, j, hi, hj, n, hs⟩ := hR
        have := h.le i j hi hj n
        omega
    have hp : (M r c).natAbs < 2 ^ 5837 := Nat.lt_trans hpP hP
    have gb' := stp gb (Nat.le_of_lt hp)
    refine ⟨fun f => ?_, by omega, fun i j hi hj => gb'.be i j (by omega) (by omega)⟩
    have hd' : ∀ P', Hd 2 P' M' := fun _ => ⟨z', h.pc, f⟩
    by_cases hs : 2 * (M r c).natAbs ≤ P
    · have hdr := lg_drop hs (by omega)
      exact ⟨2 + 3 * (M r c).natAbs.log2 + 2, by omega, .inr ⟨(M r c).natAbs, 0, gb', hd' _, by show (M' 2 2).natAbs = _; rw [h.cen], by omega, hp, by decide, rfl⟩⟩
    · have gt := h.ht (P := P) (by omega)
      match k, hR, hk with
      | 0, hR, _ => exact ⟨q - 1, by omega, .inr ⟨P, 1, gb', hd' _, ⟨M, r, c, ⟨z, hd.p, hd.f⟩, hR, gt, h⟩, hP0, hP, by decide, by omega⟩⟩
      | 1, hR, _ =>
        obtain ⟨M0, r0, c0, hd0, e0, g0, s0⟩ := hR
        refine ⟨q - 1, by omega, .inr ⟨P, 2, gb', hd' _, notHt fun g3 => ?_, hP0, hP, by decide, by omega⟩⟩
        subst e0
        exact ph2 (w2 hd0.z) (w2 z) hd0.p hd0.f hd.f s0 h g0 gt g3
      | 2, hR, _ =>
        obtain ⟨i, j, hi, hj, n, hs2⟩ := hR
        have := h.le i j hi hj n
        omega
/-- one step of the whole -/
theorem Gm.step {a : Nat} (g : Gm q a M) (ha : a < 4) (h : Stp a M M' r c) (z' : Z4 M') : (Fl a M' → ∃ q', q' < q ∧ Gm q' a M') ∧ (¬ Fl a M' → ∃ q', q' < q ∧ Gm q' (a + 1) M') := by
  obtain ⟨z, g⟩ := g
  have ca : a = 0 ∨ a = 1 ∨ a = 2 ∨ a = 3 := by omega
  rcases ca with e | e | e | e <;> subst e
  · obtain ⟨t, g, hq⟩ := g
    have hs := step0 t g h z'
    have t3 := g.t3
    refine ⟨fun f => ?_, fun _ => ⟨c1, by omega, z', .inl ⟨?_, fun i j _ _ => hs.2 i j, rfl⟩⟩⟩
    · obtain ⟨f1, f2⟩ := hs.1 f
      exact ⟨q - 1, by omega, z', t + 1, f2, by omega⟩
    · have be : ∀ i j, 1 ≤ i → 1 ≤ j → (M' i j).natAbs ≤ 2 ^ 64 := fun i j _ _ => Nat.le_of_lt (hs.2 i j)
      refine ⟨fun i k j l hi hk hj hl => ?_, fun i k q j l o hi hk hq hj hl ho => ?_, fun i j hi hj => ?_⟩
      · have := bd2 be i k j l hi hk hj hl
        have e : 2 * (2 ^ 64 * 2 ^ 64) + 2 ^ 195 ≤ 4 ^ 0 * 2 ^ 196 := by decide
        omega
      · have := bd3 be i k q j l o hi hk hq hj hl ho
        have e : 6 * (2 ^ 64 * (2 ^ 64 * 2 ^ 64)) ≤ 2 ^ 195 := by decide
        omega
      · have := be i j hi hj
        omega
  · obtain ⟨s1, s2, s3, s4⟩ := step1 g z h z'
    exact ⟨fun f => by obtain ⟨q', a1, a2⟩ := s1 f; exact ⟨q', a1, z', a2⟩, fun _ => ⟨c2, s2, z', .inl ⟨s3, s4, rfl⟩⟩⟩
  · obtain ⟨s1, s2, s3⟩ := step2 g z h z'
    exact ⟨fun f => by obtain ⟨q', a1, a2⟩ := s1 f; exact ⟨q', a1, z', a2⟩, fun _ => ⟨1, s2, z', s3, rfl⟩⟩
  · refine ⟨fun f => ?_, fun _ => ⟨0, by have := g.2; omega, z', rfl⟩⟩
    obtain ⟨i, hi, q | q⟩ := f
    · exact absurd (z' i 3 (by omega)) q
    · exact absurd (z' 3 i (by omega)) q
end
end TM
namespace K86
open L2 WL
/-! ### the rounds come to an end -/
theorem dd_exists {n p : Nat} {I : Nat → List Row → List Row → Prop} (h : DDInv n p I) : ∀ (m : Nat) (live rest : List Row), I m live rest → ∃ m' live' rest', I m' live' rest' ∧ live'.length ≤ 1 := by
  intro m
  induction m using Nat.strongRecOn with
  | ind m ih =>
    intro live rest hi
    by_cases hl : live.length ≤ 1
    · exact ⟨m, live, rest, hi, hl⟩
    · have hs : (live.mergeSort fun a b => decide (keyAt p a ≤ keyAt p b)).Pairwise fun a b => keyAt p a ≤ keyAt p b := by
        have := List.pairwise_mergeSort (le := fun a b : Row => decide (keyAt p a ≤ keyAt p b)) (fun a b c h1 h2 => by simp only [decide_eq_true_eq] at *; omega) (fun a b => by simp only [Bool.or_eq_true, decide_eq_true_eq]; omega) live
        exact this.imp fun h => by simpa using h
      have hp := List.mergeSort_perm live fun a b => decide (keyAt p a ≤ keyAt p b)
      cases e : live.mergeSort fun a b => decide (keyAt p a ≤ keyAt p b) with
      | nil => have := hp.length_eq; rw [e] at this; simp at this; omega
      | cons o tl =>
        rw [e] at hp hs
        obtain ⟨_, m', hm, hi'⟩ := h.step m live rest hi (by omega) _ o tl hp hs rfl
        exact ih m' hm _ _ hi'
theorem ech_exists {n : Nat} {J : Nat → List Row → List Row → Prop} (h : EchInv n J) {rows : List Row} (h0 : J 0 [] rows) : ∀ p, p ≤ n → ∃ found rows', J p found rows'
  | 0, _ => ⟨[], rows, h0⟩
  | p + 1, hp => by
    obtain ⟨found, rows', hj⟩ := ech_exists h h0 p (by omega)
    obtain ⟨I, i1, ⟨m, i2⟩, i3⟩ := h.dd p found rows' (by omega) hj
    obtain ⟨m', live, rest, i4, i5⟩ := dd_exists i1 m _ _ i2
    obtain ⟨g1, g2⟩ := i3 m' live rest i4 i5
    cases live with
    | nil => exact ⟨_, _, g1 rfl⟩
    | cons o tl =>
      cases tl with
      | nil => exact ⟨_, _, (g2 o rfl).2⟩
      | cons _ _ => simp at i5
/-! ### a normal form stays as it is -/
def sumV (ns : List Int) (rows : List Row) (m i : Nat) : Int := ((List.range m).map fun j => ns.getD j 0 * (rows.getD j []).getD i 0).sum
theorem sumV_succ (ns : List Int) (rows : List Row) (m i : Nat) : sumV ns rows (m + 1) i = sumV ns rows m i + ns.getD m 0 * (rows.getD m []).getD i 0 := by
  unfold sumV
  rw [List.range_succ, List.map_append, List.sum_append]
  simp
theorem sumV_sp (ns : List Int) (rows : List Row) : ∀ m, m ≤ rows.length → Sp rows (sumV ns rows m)
  | 0, _ => Sp.zero.of fun i => by simp [sumV]
  | m + 1, h => by
    have ih := sumV_sp ns rows m (by omega)
    have e : rows.getD m [] = rows[m] := by simp [show m < rows.length by omega]
    exact (Sp.add (ns.getD m 0) (List.getElem_mem (show m < rows.length by omega)) ih).of fun i => by rw [sumV_succ, e]
theorem sumV_bd {ns : List Int} {rows : List Row} {c T : Nat} (h1 : ∀ x ∈ ns, x.natAbs ≤ c) (h2 : ∀ r ∈ rows, ∀ x ∈ r, x.natAbs ≤ T) (i : Nat) : ∀ m, (sumV ns rows m i).natAbs ≤ m * (c * T)
  | 0 => by simp [sumV]
  | m + 1 => by
    have ih := sumV_bd h1 h2 i m
    rw [sumV_succ, Nat.add_mul, Nat.one_mul]
    have g1 : (ns.getD m 0).natAbs ≤ c := getD_bd h1 m
    have g2 : ((rows.getD m []).getD i 0).natAbs ≤ T := by
      by_cases hm : m < rows.length
      · have e : rows.getD m [] = rows[m] := by simp [hm]
        rw [e]
        exact getD_bd (h2 _ (List.getElem_mem hm)) i
      · simp [Nat.not_lt.mp hm]
    have g3 := Nat.mul_le_mul g1 g2
    rw [← Int.natAbs_mul] at g3
    omega
theorem sumL_at {ns : List Int} {rows : List Row} {n : Nat} (h : ∀ r ∈ rows, r.length = n) (i : Nat) : (sumL ns rows n).getD i 0 = sumV ns rows rows.length i := by
  by_cases hi : i < n
  · have h1 : i < (sumL ns rows n).length := by rw [sumL_length]; exact hi
    rw [List.getD_eq_getElem?_getD, List.getElem?_eq_getElem h1]
    simp [sumL, sumV]
  · have h1 : (sumL ns rows n).getD i 0 = 0 := by simp [List.getD_eq_getElem?_getD, List.getElem?_eq_none (show (sumL ns rows n).length ≤ i by rw [sumL_length]; omega)]
    have h2 : ∀ m, sumV ns rows m i = 0 := fun m => by
      induction m with
      | zero => simp [sumV]
      | succ m ih =>
        rw [sumV_succ, ih]
        have : (rows.getD m []).getD i 0 = 0 := by
          by_cases hm : m < rows.length
          · have e : rows.getD m [] = rows[m] := by simp [hm]
            have hl := h _ (List.getElem_mem hm)
            rw [e]
            simp [List.getD_eq_getElem?_getD, List.getElem?_eq_none (show rows[m].length ≤ i by omega)]
          · simp [Nat.not_lt.mp hm]
        rw [this]; simp
    rw [h1, h2]
/-! ### what a basis spans -/
theorem spB_true {n : Nat} : ∀ {B : List Row}, HN n B → ∀ {r : Row}, r.length = n → Sp B (V r) → spB B r = true
  | [], _, r, hl, h => by
    have hz : ∀ x ∈ r, x = 0 := fun x hx => by
      obtain ⟨i, _, rfl⟩ := mem_getD hx
      exact h.nil i
    simp [spB, zero_pv hz]
  | b :: C, hB, r, hl, h => by
    obtain ⟨m, w, hw, e⟩ := h.cons
    obtain ⟨b1, b2, b3⟩ := hB.row b (List.mem_cons_self ..)
    have w0 : w (pv b) = 0 := hw.at0 fun x hx => hB.later hx (Nat.le_refl _)
    have ep := e (pv b)
    rw [w0, Int.add_zero] at ep
    have hq : quo r b (pv b) = m := by
      unfold quo
      have ep : r.getD (pv b) 0 = m * b.getD (pv b) 0 := ep
      rw [ep]
      exact Int.mul_fdiv_cancel m (by omega)
    have hlen : r.length = b.length := by rw [hl, b1]
    have ered : ∀ i, (red r b (pv b)).getD i 0 = w i := fun i => by
      rw [red_at hlen, hq]
      have := e i
      simp only [V] at this
      omega
    simp only [spB]
    rw [if_pos (by rw [ered, w0])]
    exact spB_true hB.tail (by rw [red_length hlen]; exact hl) (hw.of fun i => (ered i).symm)
theorem spOk_of {n f : Nat} : ∀ {B : List Row}, HN n B → (∀ b ∈ B, FR n n f b) → ∀ {r : Row} {a : Nat}, r.length = n → (∀ x ∈ r, x.natAbs < 2 ^ a) → 0 < a → a + (B.length + 1) * (f + 2) ≤ 900000 → spOk n B r
  | [], _, _, _, _, _, _, _, _ => trivial
  | b :: C, hB, hf, r, a, hl, hr, ha, hs => by
    obtain ⟨b1, b2, b3⟩ := hB.row b (List.mem_cons_self ..)
    have hlen : r.length = b.length := by rw [hl, b1]
    have fb := hf b (List.mem_cons_self ..)
    have e1 : (List.length (b :: C) + 1) * (f + 2) = (C.length + 1) * (f + 2) + (f + 2) := by simp only [List.length_cons]; rw [Nat.add_mul (C.length + 1) 1, Nat.one_mul]
    have e2 : 0 < (C.length + 1) * (f + 2) := Nat.mul_pos (by omega) (by omega)
    have rp : (r.getD (pv b) 0).natAbs < 2 ^ a := by
      rw [List.getD_eq_getElem?_getD, List.getElem?_eq_getElem (by omega)]
      exact hr _ (List.getElem_mem _)
    have b0 : b.getD (pv b) 0 ≠ 0 := by omega
    refine ⟨b1, b2, redOk_of (a := a) (c := f + 1) b0 fb.piv rp (fun x hx => Nat.lt_trans (fb.bd x hx) (Nat.pow_lt_pow_right (by decide) (by omega))) ha (by omega) (by omega), ?_⟩
    refine spOk_of (a := a + (f + 1) + 1) hB.tail (fun c hc => hf c (List.mem_cons_of_mem _ hc)) (by rw [red_length hlen]; exact hl) (fun x hx => ?_) (by omega) (by omega)
    have hq : (quo r b (pv b)).natAbs ≤ 2 ^ a := Nat.le_trans (quo_le b0) (Nat.le_of_lt rp)
    have := red_bd hlen (fun z hz => Nat.le_of_lt (hr z hz)) (fun z hz => Nat.le_of_lt (Nat.lt_trans (fb.bd z hz) (Nat.pow_lt_pow_right (by decide) (show f < f + 1 by omega)))) hq x hx
    exact Nat.lt_of_le_of_lt this (bd_grow (by omega))
/-! ### one turn -/
theorem n5 {n : Nat} (h0 : 0 < n) (h : n ≤ 5) : n = 1 ∨ n = 2 ∨ n = 3 ∨ n = 4 ∨ n = 5 := by omega
theorem bbs_ok {s p : Nat} (hs : s ≤ 47) (hp : p < 5) : bbs s p ≤ 4000 := by
  have : p = 0 ∨ p = 1 ∨ p = 2 ∨ p = 3 ∨ p = 4 := by omega
  rcases this with e | e | e | e | e <;> subst e <;> simp only [bbs] <;> omega
theorem ffs_ok {s p : Nat} (hs : s ≤ 47) (hp : p ≤ 5) : ffs s p ≤ 20000 := by
  have : p = 0 ∨ p = 1 ∨ p = 2 ∨ p = 3 ∨ p = 4 ∨ p = 5 := by omega
  rcases this with e | e | e | e | e | e <;> subst e <;> simp only [bbs, ffs] <;> omega
theorem hB1 : ∀ k, k < 5 → ∀ i, i < 6 → hh 42 k i ≤ 8000 ∧ rrF 42 k i ≤ 8000 := by decide
theorem hB2 : ∀ k, k < 5 → ∀ i, i ≤ 6 → hh 42 k i ≤ 20000 := by decide
theorem spB_sp {n : Nat} : ∀ {B : List Row}, HN n B → ∀ {r : Row}, r.length = n → spB B r = true → Sp B (V r)
  | [], _, r, hl, h => by
    have hz : pv r = r.length := by simpa [spB] using h
    exact Sp.zero.of fun i => by
      by_cases hi : i < r.length
      · have := pv_zero hz (r.getD i 0) (by rw [List.getD_eq_getElem?_getD, List.getElem?_eq_getElem hi]; exact List.getElem_mem hi)
        exact this.symm
      · show (0 : Int) = r.getD i 0
        rw [List.getD_eq_getElem?_getD, List.getElem?_eq_none (by omega)]; rfl
  | b :: C, hB, r, hl, h => by
    obtain ⟨b1, b2, b3⟩ := hB.row b (List.mem_cons_self ..)
    have hlen : r.length = b.length := by rw [hl, b1]
    simp only [spB] at h
    split at h
    · have ih := spB_sp hB.tail (r := red r b (pv b)) (by rw [red_length hlen]; exact hl) h
      exact red_back (p := pv b) hlen (ih.mono fun x hx => List.mem_cons_of_mem _ hx) (Sp.mem (List.mem_cons_self ..))
    · cases h
theorem spB_iff {n : Nat} {B : List Row} (h : HN n B) {r : Row} (hl : r.length = n) : spB B r = true ↔ Sp B (V r) := ⟨spB_sp h hl, spB_true h hl⟩
end K86
namespace K86
open L2 WL
/-! ### the entries behind bring and clear -/
theorem swp_getD {α : Type} {d : α} {l : List α} {i j : Nat} (hi : i < l.length) (hj : j < l.length) (k : Nat) : (swp d l i j).getD k d = l.getD (TM.sw i j k) d := by
  rw [List.getD_eq_getElem?_getD, swp_get hi hj, List.getD_eq_getElem?_getD]
  unfold TM.sw
  by_cases h1 : k = j
  · subst h1; simp
  · rw [if_neg (fun e => h1 e.symm), if_neg h1]
    by_cases h2 : k = i
    · subst h2; simp
    · rw [if_neg (fun e => h2 e.symm), if_neg h2]
theorem getD_set_ne {α : Type} {l : List α} {i k : Nat} {x d : α} (h : i ≠ k) : (l.set i x).getD k d = l.getD k d := by
  rw [List.getD_eq_getElem?_getD, List.getElem?_set_ne h, ← List.getD_eq_getElem?_getD]
theorem map_getD {f : Row → Row} (hf : f [] = []) (A : List Row) (i : Nat) : (A.map f).getD i [] = f (A.getD i []) := by
  rw [List.getD_eq_getElem?_getD, List.getD_eq_getElem?_getD, List.getElem?_map]
  cases A[i]? with
  | none => simp [hf]
  | some r => rfl
theorem mem_row {A : List Row} {n : Nat} (h : ∀ r ∈ A, r.length = n) {i : Nat} (hi : i < A.length) : A.getD i [] ∈ A ∧ (A.getD i []).length = n := by
  have : A.getD i [] = A[i] := by simp [hi]
  rw [this]
  exact ⟨List.getElem_mem hi, h _ (List.getElem_mem hi)⟩
theorem getD_out {A : List Row} {i : Nat} (hi : A.length ≤ i) : A.getD i [] = [] := by simp [List.getD_eq_getElem?_getD, hi]
theorem ent_out {A : List Row} {i j : Nat} (hi : A.length ≤ i) : ent A i j = 0 := by unfold ent; rw [getD_out hi]; rfl
theorem ent_outc {A : List Row} {n : Nat} (h : ∀ r ∈ A, r.length = n) {i j : Nat} (hj : n ≤ j) : ent A i j = 0 := by
  by_cases hi : i < A.length
  · unfold ent
    rw [List.getD_eq_getElem?_getD, List.getElem?_eq_none (by rw [(mem_row h hi).2]; exact hj)]; rfl
  · exact ent_out (by omega)
theorem colS_nil (a c : Nat) : colS a c [] = [] := by simp [colS, swp]
theorem colF_nil (a c : Nat) (f : Int) : colF a c f [] = [] := by simp [colF]
theorem colS_getD {n a c : Nat} {r : Row} (hr : r.length = n) (ha : a < n) (hc : c < n) (j : Nat) : (colS a c r).getD j 0 = r.getD (TM.sw a c j) 0 := swp_getD (by omega) (by omega) j
section
variable {A U : List Row} {n a r c : Nat}
theorem brA_row (h : ∀ r ∈ A, r.length = n) (ha : a < A.length) (hr : r < A.length) : ∀ x ∈ brA A a r c, x.length = n := by
  intro x hx
  obtain ⟨y, hy, rfl⟩ := List.mem_map.mp hx
  rw [colS_length]
  exact h y ((swp_perm ha hr).mem_iff.mp hy)
theorem ent_brA (h : ∀ r ∈ A, r.length = n) (ha : a < A.length) (hr : r < A.length) (han : a < n) (hcn : c < n) (i j : Nat) : ent (brA A a r c) i j = ent A (TM.sw a r i) (TM.sw a c j) := by
  unfold ent brA
  rw [map_getD (colS_nil a c), swp_getD ha hr]
  by_cases hi : TM.sw a r i < A.length
  · exact colS_getD (mem_row h hi).2 han hcn j
  · rw [getD_out (by omega), colS_nil]; rfl
theorem rowPh_row (p : Int) (h : ∀ r ∈ A, r.length = n) : ∀ k, a + 1 + k ≤ A.length → ∀ x ∈ rowPh p a A k, x.length = n
  | 0, _, x, hx => h x hx
  | k + 1, hk, x, hx => by
    have ih := rowPh_row p h k (by omega)
    have hl := rowPh_length p a A k
    rcases List.mem_or_eq_of_mem_set hx with q | q
    · exact ih x q
    · rw [q, lessL_length]
      · exact (mem_row ih (i := a + 1 + k) (by omega)).2
      · rw [(mem_row ih (i := a + 1 + k) (by omega)).2, (mem_row ih (i := a) (by omega)).2]
theorem ent_rowPh (p : Int) (h : ∀ r ∈ A, r.length = n) : ∀ k, a + 1 + k ≤ A.length → ∀ i j, ent (rowPh p a A k) i j = if a < i ∧ i < a + 1 + k then ent A i j - (ent A i a).fdiv p * ent A a j else ent A i j
  | 0, _, i, j => by rw [if_neg (by omega)]; rfl
  | k + 1, hk, i, j => by
    have ih := ent_rowPh p h k (by omega)
    have rw1 := rowPh_row p h k (by omega : a + 1 + k ≤ A.length)
    have hl := rowPh_length p a A k
    by_cases hi : i = a + 1 + k
    · subst hi
      rw [if_pos (by omega)]
      have e1 : (rowPh p a A (k + 1)).getD (a + 1 + k) [] = lessL ((rowPh p a A k).getD (a + 1 + k) []) ((ent (rowPh p a A k) (a + 1 + k) a).fdiv p) ((rowPh p a A k).getD a []) := by
        simp only [rowPh, rowOp]
        rw [List.getD_eq_getElem?_getD, List.getElem?_set_self (by omega)]; rfl
      have e2 : ent (rowPh p a A (k + 1)) (a + 1 + k) j = ent (rowPh p a A k) (a + 1 + k) j - (ent (rowPh p a A k) (a + 1 + k) a).fdiv p * ent (rowPh p a A k) a j := by
        unfold ent at *
        rw [e1]
        exact lessL_at (by rw [(mem_row rw1 (i := a + 1 + k) (by omega)).2, (mem_row rw1 (i := a) (by omega)).2]) j
      rw [e2, ih, ih, ih, if_neg (by omega), if_neg (by omega), if_neg (by omega)]
    · have e1 : ent (rowPh p a A (k + 1)) i j = ent (rowPh p a A k) i j := by
        unfold ent
        simp only [rowPh, rowOp]
        rw [getD_set_ne (fun e => hi e.symm)]
      rw [e1, ih]
      by_cases hc : a < i ∧ i < a + 1 + k
      · rw [if_pos hc, if_pos (by omega)]
      · rw [if_neg hc, if_neg (by omega)]
theorem colF_getD {r : Row} {cc : Nat} {f : Int} (hr : r.length = n) (hc : cc < n) (j : Nat) : (colF a cc f r).getD j 0 = if j = cc then r.getD cc 0 - f * r.getD a 0 else r.getD j 0 := by
  unfold colF
  rw [List.getD_eq_getElem?_getD, List.getElem?_set]
  by_cases h : cc = j
  · subst h
    rw [if_pos rfl, if_pos (by omega), if_pos rfl]; rfl
  · rw [if_neg h, if_neg (fun e => h e.symm), ← List.getD_eq_getElem?_getD]
theorem colPh_row (p : Int) (h : ∀ r ∈ A, r.length = n) (hu : ∀ r ∈ U, r.length = n) : ∀ k, (∀ x ∈ (colPh p a A U k).1, x.length = n) ∧ ∀ x ∈ (colPh p a A U k).2, x.length = n
  | 0 => ⟨h, hu⟩
  | k + 1 => by
    obtain ⟨h1, h2⟩ := colPh_row p h hu k
    refine ⟨fun x hx => ?_, fun x hx => ?_⟩
    · obtain ⟨y, hy, rfl⟩ := List.mem_map.mp hx
      rw [colF_length]; exact h1 y hy
    · obtain ⟨y, hy, rfl⟩ := List.mem_map.mp hx
      rw [colF_length]; exact h2 y hy
theorem ent_colPh (p : Int) (h : ∀ r ∈ A, r.length = n) (hu : ∀ r ∈ U, r.length = n) : ∀ k, a + 1 + k ≤ n → (∀ i j, ent (colPh p a A U k).1 i j = if a < j ∧ j < a + 1 + k then ent A i j - (ent A a j).fdiv p * ent A i a else ent A i j) ∧
    ∀ i j, ent (colPh p a A U k).2 i j = if a < j ∧ j < a + 1 + k then ent U i j - (ent A a j).fdiv p * ent U i a else ent U i j
  | 0, _ => ⟨fun i j => by rw [if_neg (by omega)]; rfl, fun i j => by rw [if_neg (by omega)]; rfl⟩
  | k + 1, hk => by
    obtain ⟨i1, i2⟩ := ent_colPh p h hu k (by omega)
    obtain ⟨r1, r2⟩ := colPh_row (a := a) p h hu k
    have f0 : ent (colPh p a A U k).1 a (a + 1 + k) = ent A a (a + 1 + k) := by rw [i1, if_neg (by omega)]
    have gen : ∀ (X : List Row), (∀ x ∈ X, x.length = n) → ∀ i j, ent (X.map (colF a (a + 1 + k) ((ent (colPh p a A U k).1 a (a + 1 + k)).fdiv p))) i j = if j = a + 1 + k then ent X i j - (ent A a j).fdiv p * ent X i a else ent X i j := by
      intro X hX i j
      unfold ent at *
      rw [map_getD (colF_nil _ _ _)]
      by_cases hi : i < X.length
      · rw [colF_getD (mem_row hX hi).2 (by omega)]
        by_cases hj : j = a + 1 + k
        · rw [if_pos hj, if_pos hj]
          subst hj
          rw [f0]
        · rw [if_neg hj, if_neg hj]
      · rw [getD_out (A := X) (i := i) (by omega), colF_nil]
        simp
    refine ⟨fun i j => ?_, fun i j => ?_⟩
    · have e : (colPh p a A U (k + 1)).1 = (colPh p a A U k).1.map (colF a (a + 1 + k) ((ent (colPh p a A U k).1 a (a + 1 + k)).fdiv p)) := rfl
      rw [e, gen _ r1]
      by_cases hj : j = a + 1 + k
      · rw [if_pos hj, if_pos (by omega), i1, i1, if_neg (by omega), if_neg (by omega)]
      · rw [if_neg hj, i1]
        by_cases hc : a < j ∧ j < a + 1 + k
        · rw [if_pos hc, if_pos (by omega)]
        · rw [if_neg hc, if_neg (by omega)]
    · have e : (colPh p a A U (k + 1)).2 = (colPh p a A U k).2.map (colF a (a + 1 + k) ((ent (colPh p a A U k).1 a (a + 1 + k)).fdiv p)) := rfl
      rw [e, gen _ r2]
      by_cases hj : j = a + 1 + k
      · rw [if_pos hj, if_pos (by omega), i2, i2, if_neg (by omega), if_neg (by omega)]
      · rw [if_neg hj, i2]
        by_cases hc : a < j ∧ j < a + 1 + k
        · rw [if_pos hc, if_pos (by omega)]
        · rw [if_neg hc, if_neg (by omega)]
/-- the row phase, whole -/
def rowE (A : List Row) (a i j : Nat) : Int := if a < i then ent A i j - (ent A i a).fdiv (ent A a a) * ent A a j else ent A i j
theorem fdiv_zero_l (p : Int) : (0 : Int).fdiv p = 0 := Int.zero_fdiv p
theorem ent_rowAll (h : ∀ r ∈ A, r.length = n) (ha : a < A.length) (i j : Nat) : ent (rowPh (ent A a a) a A (A.length - (a + 1))) i j = rowE A a i j := by
  rw [ent_rowPh _ h _ (by omega)]
  unfold rowE
  by_cases h1 : a < i
  · by_cases h2 : i < A.length
    · rw [if_pos (by omega), if_pos h1]
    · rw [if_neg (by omega), if_pos h1, ent_out (i := i) (by omega), ent_out (i := i) (by omega), fdiv_zero_l]; simp
  · rw [if_neg (by omega), if_neg h1]
theorem ent_clA (h : ∀ r ∈ A, r.length = n) (hu : ∀ r ∈ U, r.length = n) (ha : a < A.length) (han : a < n) :
    (∀ i j, ent (clA A U a n).1 i j = if a < j then rowE A a i j - (ent A a j).fdiv (ent A a a) * rowE A a i a else rowE A a i j) ∧
    ∀ i j, ent (clA A U a n).2 i j = if a < j then ent U i j - (ent A a j).fdiv (ent A a a) * ent U i a else ent U i j := by
  have hr := rowPh_row (a := a) (ent A a a) h (A.length - (a + 1)) (by omega)
  obtain ⟨c1, c2⟩ := ent_colPh (a := a) (ent A a a) hr hu (n - (a + 1)) (by omega)
  have e0 : ∀ j, rowE A a a j = ent A a j := fun j => by unfold rowE; rw [if_neg (by omega)]
  refine ⟨fun i j => ?_, fun i j => ?_⟩
  · unfold clA
    rw [c1]
    simp only [ent_rowAll h ha, e0]
    by_cases h1 : a < j
    · by_cases h2 : j < n
      · rw [if_pos (by omega), if_pos h1]
      · rw [if_neg (by omega), if_pos h1, ent_outc h (by omega : n ≤ j), fdiv_zero_l]
        simp
    · rw [if_neg (by omega), if_neg h1]
  · unfold clA
    rw [c2]
    simp only [ent_rowAll h ha, e0]
    by_cases h1 : a < j
    · by_cases h2 : j < n
      · rw [if_pos (by omega), if_pos h1]
      · rw [if_neg (by omega), if_pos h1, ent_outc h (by omega : n ≤ j), fdiv_zero_l]
        simp
    · rw [if_neg (by omega), if_neg h1]
theorem clA_row (h : ∀ r ∈ A, r.length = n) (hu : ∀ r ∈ U, r.length = n) (ha : a < A.length) : (clA A U a n).1.length = A.length ∧ (clA A U a n).2.length = U.length ∧ (∀ x ∈ (clA A U a n).1, x.length = n) ∧ ∀ x ∈ (clA A U a n).2, x.length = n := by
  have hr := rowPh_row (a := a) (ent A a a) h (A.length - (a + 1)) (by omega)
  have h1 := colPh_len (ent A a a) a (rowPh (ent A a a) a A (A.length - (a + 1))) U (n - (a + 1))
  have h2 := colPh_row (a := a) (ent A a a) hr hu (n - (a + 1))
  rw [rowPh_length] at h1
  exact ⟨h1.1, h1.2, h2.1, h2.2⟩
/-- clear as a relation of tables -/
theorem clr_clA (h : ∀ r ∈ A, r.length = n) (hu : ∀ r ∈ U, r.length = n) (ha : a < A.length) (han : a < n) (p0 : ent A a a ≠ 0) : TM.Clr a (ent A) (ent (clA A U a n).1) := by
  have e := (ent_clA h hu ha han).1
  have fd : ∀ x : Int, x = ent A a a * x.fdiv (ent A a a) + x.fmod (ent A a a) := fun x => (Int.mul_fdiv_add_fmod x _).symm
  have l1 : ∀ i, a < i → rowE A a i a = (ent A i a).fmod (ent A a a) := fun i hi => by
    unfold rowE
    rw [if_pos hi]
    have := fd (ent A i a)
    rw [Int.mul_comm] at this
    omega
  have l2 : ∀ j, rowE A a a j = ent A a j := fun j => by unfold rowE; rw [if_neg (by omega)]
  have f2 : ∀ j, a < j → ent (clA A U a n).1 a j = (ent A a j).fmod (ent A a a) := fun j hj => by
    rw [e, if_pos hj, l2, l2]
    have := fd (ent A a j)
    rw [Int.mul_comm] at this
    omega
  have f1 : ∀ i, a < i → ent (clA A U a n).1 i a = (ent A i a).fmod (ent A a a) := fun i hi => by rw [e, if_neg (by omega), l1 i hi]
  refine ⟨p0, by rw [e, if_neg (by omega), l2], f1, f2, fun i j hi hj => ?_⟩
  rw [f1 i hi, f2 j hj, e, if_pos hj, l1 i hi]
  have e1 : rowE A a i j = ent A i j - (ent A i a).fdiv (ent A a a) * ent A a j := by unfold rowE; rw [if_pos hi]
  rw [e1]
  have g1 := fd (ent A i a)
  have g2 := fd (ent A a j)
  generalize (ent A i a).fdiv (ent A a a) = q1 at *
  generalize (ent A a j).fdiv (ent A a a) = q2 at *
  generalize (ent A i a).fmod (ent A a a) = r1 at *
  generalize (ent A a j).fmod (ent A a a) = r2 at *
  grind
end
end K86
namespace K86
open L2 WL
/-! ### spans under linear maps; rank -/
abbrev Fn := Nat → Int
structure Lin (e : Fn → Fn) : Prop where
  z : e (fun _ => 0) = fun _ => 0
  a : ∀ (v w : Fn) (c : Int), e (fun i => v i + c * w i) = fun i => e v i + c * e w i
theorem Sp.lin {A A' : List Row} {e : Fn → Fn} (l : Lin e) (h : ∀ r ∈ A, Sp A' (e (V r))) {w : Fn} (hw : Sp A w) : Sp A' (e w) := by
  induction hw with
  | zero => rw [l.z]; exact .zero
  | @add v r c hr _ ih =>
    have e1 := l.a v (V r) c
    rw [show (fun i => v i + c * r.getD i 0) = fun i => v i + c * V r i from rfl, e1]
    exact (ih.addv ((h r hr).smul c)).of fun i => rfl
inductive SpF (L : List Fn) : Fn → Prop
  | zero : SpF L (fun _ => 0)
  | add {v x : Fn} (c : Int) : x ∈ L → SpF L v → SpF L (fun i => v i + c * x i)
theorem SpF.of {L : List Fn} {v w : Fn} (h : SpF L v) (e : ∀ i, v i = w i) : SpF L w := by
  have : v = w := funext e
  rw [← this]; exact h
theorem SpF.addv {L : List Fn} {v w : Fn} (hv : SpF L v) (hw : SpF L w) : SpF L (fun i => v i + w i) := by
  induction hw with
  | zero => exact hv.of fun i => by simp
  | add c hr _ ih => exact (SpF.add c hr ih).of fun i => by simp only; omega
theorem SpF.smul {L : List Fn} {v : Fn} (c : Int) (hv : SpF L v) : SpF L (fun i => c * v i) := by
  induction hv with
  | zero => exact SpF.zero.of fun i => by simp
  | add d hr _ ih => exact (SpF.add (c * d) hr ih).of fun i => by simp only; rw [Int.mul_add, Int.mul_assoc]
theorem SpF.mem {L : List Fn} {x : Fn} (h : x ∈ L) : SpF L x := (SpF.add 1 h SpF.zero).of fun i => by simp
theorem SpF.lin {L : List Fn} {e : Fn → Fn} (l : Lin e) {w : Fn} (hw : SpF L w) : SpF (L.map e) (e w) := by
  induction hw with
  | zero => rw [l.z]; exact .zero
  | @add v x c hx _ ih =>
    rw [l.a]
    exact SpF.add c (List.mem_map.mpr ⟨x, hx, rfl⟩) ih
/-- no fewer functions span the rows, even times numbers -/
def Cov (L : List Fn) (A : List Row) : Prop := ∀ r ∈ A, ∃ k : Int, k ≠ 0 ∧ SpF L (fun i => k * V r i)
def Free (m : Nat) (A : List Row) : Prop := ∀ L : List Fn, Cov L A → m ≤ L.length
theorem Cov.sp {L : List Fn} {A : List Row} (h : Cov L A) {w : Fn} (hw : Sp A w) : ∃ k : Int, k ≠ 0 ∧ SpF L (fun i => k * w i) := by
  induction hw with
  | zero => exact ⟨1, by decide, SpF.zero.of fun i => by simp⟩
  | @add v r c hr _ ih =>
    obtain ⟨k, k0, hk⟩ := ih
    obtain ⟨j, j0, hj⟩ := h r hr
    refine ⟨k * j, fun z => by rcases Int.mul_eq_zero.mp z with z | z; exact k0 z; exact j0 z, ((hk.smul j).addv (hj.smul (k * c))).of fun i => ?_⟩
    simp only [V]
    grind
theorem Free.speq {m : Nat} {A A' : List Row} (h : Free m A) (s : ∀ r ∈ A, Sp A' (V r)) : Free m A' := fun L hL => h L fun r hr => hL.sp (s r hr)
theorem Free.lin {m : Nat} {A A' : List Row} (h : Free m A) {e e' : Fn → Fn} (l' : Lin e') (inv : ∀ w, e' (e w) = w) (s : ∀ r ∈ A, Sp A' (e (V r))) : Free m A' := fun L hL => by
  have := h (L.map e') fun r hr => by
    obtain ⟨k, k0, hk⟩ := hL.sp (s r hr)
    refine ⟨k, k0, ?_⟩
    have h1 := hk.lin l'
    have h2 : e' (fun i => k * e (V r) i) = fun i => k * V r i := by
      have h3 := l'.a (fun _ => 0) (e (V r)) k
      rw [l'.z, inv] at h3
      have h4 : (fun i => (0 : Int) + k * e (V r) i) = fun i => k * e (V r) i := funext fun i => by omega
      rw [h4] at h3
      rw [h3]
      exact funext fun i => by show (0 : Int) + k * V r i = k * V r i; omega
    rw [h2] at h1
    exact h1
  rwa [List.length_map] at this
/-- rows that are nothing -/
theorem Free.not {m a : Nat} {A : List Row} (h : Free m A) (ha : a < m) (hz : ∀ i, a ≤ i → i < A.length → ∀ j, ent A i j = 0) : False := by
  have := h ((A.take a).map V) fun r hr => by
    obtain ⟨i, hi, rfl⟩ := List.getElem_of_mem hr
    refine ⟨1, by decide, ?_⟩
    by_cases hia : i < a
    · refine (SpF.mem (List.mem_map.mpr ⟨A[i], ?_, rfl⟩)).of fun j => by simp
      rw [List.mem_take_iff_getElem]
      exact ⟨i, by omega, rfl⟩
    · refine SpF.zero.of fun j => ?_
      have := hz i (by omega) hi j
      unfold ent at this
      have e : A.getD i [] = A[i] := by simp [hi]
      rw [e] at this
      simp only [V, this]; rfl
  rw [List.length_map, List.length_take] at this
  omega
theorem hn_free {n : Nat} : ∀ {B : List Row}, HN n B → Free B.length B
  | [], _ => fun L _ => Nat.zero_le _
  | b :: C, h => fun L hL => by
    obtain ⟨_, _, p3⟩ := h.row b (List.mem_cons_self ..)
    -- one of L is not nothing at the pivot
    have hex : ∃ l ∈ L, l (pv b) ≠ 0 := by
      refine Classical.byContradiction fun hn => ?_
      have hz : ∀ l ∈ L, l (pv b) = 0 := fun l hl => Classical.byContradiction fun q => hn ⟨l, hl, q⟩
      obtain ⟨k, k0, hk⟩ := hL b (List.mem_cons_self ..)
      have z : ∀ {w : Fn}, SpF L w → w (pv b) = 0 := fun {w} hw => by
        induction hw with
        | zero => rfl
        | @add v x c hx _ ih => show v (pv b) + c * x (pv b) = 0; rw [ih, hz x hx]; simp
      have := z hk
      rcases Int.mul_eq_zero.mp this with q | q
      · exact k0 q
      · simp only [V] at q; omega
    obtain ⟨l, hl, l0⟩ := hex
    obtain ⟨L1, L2, rfl⟩ := List.append_of_mem hl
    have key : ∀ {w : Fn}, SpF (L1 ++ l :: L2) w → SpF ((L1 ++ L2).map fun x => fun i => l (pv b) * x i - x (pv b) * l i) (fun i => l (pv b) * w i - w (pv b) * l i) := fun {w} hw => by
      induction hw with
      | zero => exact SpF.zero.of fun i => by simp
      | @add v x c hx _ ih =>
        have hx' : x = l ∨ x ∈ L1 ++ L2 := by
          simp only [List.mem_append, List.mem_cons] at hx ⊢
          rcases hx with q | q | q
          · exact .inr (.inl q)
          · exact .inl q
          · exact .inr (.inr q)
        rcases hx' with q | q
        · subst q
          exact ih.of fun i => by grind
        · exact (SpF.add c (List.mem_map.mpr ⟨x, q, rfl⟩) ih).of fun i => by grind
    have ih := hn_free h.tail ((L1 ++ L2).map fun x => fun i => l (pv b) * x i - x (pv b) * l i) fun r hr => by
      obtain ⟨k, k0, hk⟩ := hL r (List.mem_cons_of_mem _ hr)
      refine ⟨l (pv b) * k, fun z => by rcases Int.mul_eq_zero.mp z with z | z; exact l0 z; exact k0 z, (key hk).of fun i => ?_⟩
      have hz : r.getD (pv b) 0 = 0 := h.later hr (Nat.le_refl _)
      show l (pv b) * (k * V r i) - k * r.getD (pv b) 0 * l i = l (pv b) * k * V r i
      rw [hz]
      grind
    rw [List.length_map] at ih
    simp only [List.length_append, List.length_cons] at ih ⊢
    omega
/-! ### the product of a row with a table's columns -/
def dotU (U : List Row) (v : List Int) : Fn := fun j => dotL (U.map fun r => r.getD j 0) v
theorem dotL_lin (f g : Row → Int) (c : Int) : ∀ (U : List Row) (v : List Int), dotL (U.map fun r => f r - c * g r) v = dotL (U.map f) v - c * dotL (U.map g) v
  | [], v => by simp [dotL]
  | r :: U, [] => by simp [dotL]
  | r :: U, x :: v => by
    have ih := dotL_lin f g c U v
    simp only [dotL, List.map_cons, List.zipWith_cons_cons, List.sum_cons] at ih ⊢
    rw [ih]
    grind
theorem dotU_out {U : List Row} {n : Nat} (h : ∀ r ∈ U, r.length = n) (v : List Int) {j : Nat} (hj : n ≤ j) : dotU U v j = 0 := by
  have key : ∀ (U : List Row) (v : List Int), (∀ r ∈ U, r.length = n) → dotL (U.map fun r => r.getD j 0) v = 0 := by
    intro U
    induction U with
    | nil => intro v _; simp [dotL]
    | cons r U ih =>
      intro v h
      cases v with
      | nil => simp [dotL]
      | cons x v =>
        have h1 := ih v fun r hr => h r (List.mem_cons_of_mem _ hr)
        have h2 : r.getD j 0 = 0 := by rw [List.getD_eq_getElem?_getD, List.getElem?_eq_none (by rw [h r (List.mem_cons_self ..)]; exact hj)]; rfl
        simp only [dotL, List.map_cons, List.zipWith_cons_cons, List.sum_cons] at h1 ⊢
        rw [h1, h2]; simp
  exact key U v h
/-- the columns of a table by its entries -/
theorem col_ext {U U' : List Row} (hl : U'.length = U.length) {f : Row → Int} {j : Nat} (h : ∀ i, i < U.length → ent U' i j = f (U.getD i [])) : (U'.map fun r => r.getD j 0) = U.map f := by
  apply List.ext_getElem
  · simp [hl]
  · intro i h1 h2
    have hi : i < U.length := by simpa using h2
    have hi' : i < U'.length := by omega
    have := h i hi
    unfold ent at this
    rw [show U'.getD i [] = U'[i] by simp [hi'], show U.getD i [] = U[i] by simp [hi]] at this
    rw [List.getElem_map, List.getElem_map]
    exact this
/-- the unit table -/
theorem dotU_idm {n : Nat} {v : List Int} (hv : v.length = n) : dotU (idm n) v = V v := by
  funext j
  by_cases hj : j < n
  · have e : (idm n).map (fun r => r.getD j 0) = (List.range n).map fun a => if j = a then (1 : Int) else 0 := by
      unfold idm
      rw [List.map_map]
      refine List.map_congr_left fun a _ => ?_
      simp [unitR, hj]
    have key : ∀ (m : Nat) (w : List Int) (j s : Nat), w.length = m → s ≤ j → j < s + m → dotL ((List.range' s m).map fun a => if j = a then (1 : Int) else 0) w = w.getD (j - s) 0 := by
      intro m
      induction m with
      | zero => intro w j s h1 h2 h3; omega
      | succ m ih =>
        intro w j s h1 h2 h3
        cases w with
        | nil => simp at h1
        | cons x w =>
          simp only [List.range'_succ, List.map_cons, dotL, List.zipWith_cons_cons, List.sum_cons]
          by_cases hjs : j = s
          · subst hjs
            have z : (List.zipWith (fun x y => x * y) ((List.range' (j + 1) m).map fun a => if j = a then (1 : Int) else 0) w).sum = 0 := by
              have : ∀ (k : Nat) (w : List Int) (t : Nat), j < t → (List.zipWith (fun x y => x * y) ((List.range' t k).map fun a => if j = a then (1 : Int) else 0) w).sum = 0 := by
                intro k
                induction k with
                | zero => intro w t _; simp
                | succ k ih =>
                  intro w t ht
                  cases w with
                  | nil => simp
                  | cons y w =>
                    simp only [List.range'_succ, List.map_cons, List.zipWith_cons_cons, List.sum_cons]
                    rw [ih w (t + 1) (by omega), if_neg (by omega)]
                    simp
              exact this m w (j + 1) (by omega)
            rw [z]
            simp
          · have := ih w j (s + 1) (by simpa using h1) (by omega) (by omega)
            unfold dotL at this
            rw [this, if_neg hjs]
            have : j - s = (j - (s + 1)) + 1 := by omega
            rw [this]
            simp
    have := key n v j 0 hv (Nat.zero_le _) (by omega)
    rw [← List.range_eq_range'] at this
    show dotL ((idm n).map fun r => r.getD j 0) v = v.getD j 0
    rw [e, this, Nat.sub_zero]
  · rw [dotU_out (n := n) (fun r hr => by obtain ⟨a, _, rfl⟩ := List.mem_map.mp hr; exact unitR_length n a) v (by omega)]
    show 0 = v.getD j 0
    rw [List.getD_eq_getElem?_getD, List.getElem?_eq_none (by omega)]; rfl
end K86
namespace K86
open PySem L2 WL
/-! ### the invariant of turn -/
def eS (a c : Nat) : Fn → Fn := fun w j => w (TM.sw a c j)
def eC (a : Nat) (f : Nat → Int) : Fn → Fn := fun w j => if a < j then w j - f j * w a else w j
theorem eS_lin (a c : Nat) : Lin (eS a c) := ⟨rfl, fun _ _ _ => rfl⟩
theorem sw_sw (a c j : Nat) : TM.sw a c (TM.sw a c j) = j := by
  unfold TM.sw
  by_cases h1 : j = c
  · subst h1
    by_cases h2 : a = j
    · simp [h2]
    · simp [h2]
  · by_cases h2 : j = a
    · subst h2; simp [h1]
    · simp [h1, h2]
theorem eS_inv (a c : Nat) (w : Fn) : eS a c (eS a c w) = w := funext fun j => by simp only [eS, sw_sw]
theorem eC_lin (a : Nat) (f : Nat → Int) : Lin (eC a f) := ⟨funext fun j => by simp [eC], fun v w c => funext fun j => by
  simp only [eC]
  split
  · grind
  · rfl⟩
theorem eC_inv (a : Nat) (f : Nat → Int) (w : Fn) : eC a (fun j => -f j) (eC a f w) = w := funext fun j => by
  simp only [eC]
  split
  · rw [if_neg (by omega)]; grind
  · rfl
structure GG (n m : Nat) (B : List Row) (q a : Nat) (A U : List Row) : Prop where
  la : A.length = m
  am : a ≤ m
  ra : ∀ r ∈ A, r.length = n
  lu : U.length = n
  ru : ∀ r ∈ U, r.length = n
  g : TM.Gm q a (ent A)
  sh : ∀ i j, i < a ∨ j < a → i ≠ j → ent A i j = 0
  sd : ∀ i, i < a → ent A i i ≠ 0 ∧ (ent A i i).natAbs < 2 ^ 5840
  ub : ∀ i j, (ent U i j).natAbs < 2 ^ (5842 * (TM.c1 + 4 - q) + 1)
  sp : ∀ v : Row, v.length = n → (Sp B (V v) ↔ Sp A (dotU U v))
  fr : Free m A
section
variable {n m q a r c : Nat} {B A U : List Row}
theorem bits_mul {x y : Int} {i j : Nat} (h1 : x.natAbs < 2 ^ i) (h2 : y.natAbs < 2 ^ j) (h : i + j ≤ 134217728) : IntMulOk x y := mulOk200 (Nat.le_refl i) h1 h2 h
theorem mem_row_ent {X : List Row} {i : Nat} {y : Int} (h : y ∈ X.getD i []) : ∃ j, y = ent X i j := by
  obtain ⟨j, hj, e⟩ := mem_getD h
  exact ⟨j, e.symm⟩
theorem mem_ent {X : List Row} {row : Row} (h : row ∈ X) (j : Nat) : ∃ i, row.getD j 0 = ent X i j := by
  obtain ⟨i, hi, rfl⟩ := List.getElem_of_mem h
  exact ⟨i, by unfold ent; rw [show X.getD i [] = X[i] by simp [hi]]⟩
theorem GG.block (g : GG n m B q a A U) (ha : a < m) : ∃ i j, a ≤ i ∧ i < m ∧ a ≤ j ∧ j < n ∧ ent A i j ≠ 0 := by
  refine Classical.byContradiction fun hn => g.fr.not ha fun i hi hil j => ?_
  refine Classical.byContradiction fun h0 => ?_
  by_cases hj : j < a
  · exact h0 (g.sh i j (.inr hj) (by omega))
  · by_cases hjn : j < n
    · exact hn ⟨i, j, hi, by rw [← g.la]; exact hil, by omega, hjn, h0⟩
    · exact h0 (ent_outc g.ra (by omega))
theorem ent_brU (hu : ∀ r ∈ U, r.length = n) (ha : a < n) (hc : c < n) (i j : Nat) : ent (brU U a c) i j = ent U i (TM.sw a c j) := by
  unfold ent brU
  rw [map_getD (colS_nil a c)]
  by_cases hi : i < U.length
  · exact colS_getD (mem_row hu hi).2 ha hc j
  · rw [getD_out (A := U) (i := i) (by omega), colS_nil]; rfl
/-- what is known of the brought tables -/
structure Br (n m a : Nat) (A1 U1 : List Row) (q : Nat) : Prop where
  la : A1.length = m
  am : a < m
  an : a < n
  ra : ∀ r ∈ A1, r.length = n
  lu : U1.length = n
  ru : ∀ r ∈ U1, r.length = n
  p0 : ent A1 a a ≠ 0
  sh : ∀ i j, i < a ∨ j < a → i ≠ j → ent A1 i j = 0
  sd : ∀ i, i < a → ent A1 i i ≠ 0 ∧ (ent A1 i i).natAbs < 2 ^ 5840
  be : ∀ i j, a ≤ i → (ent A1 i j).natAbs < 2 ^ 5840
  ub : ∀ i j, (ent U1 i j).natAbs < 2 ^ (5842 * (TM.c1 + 4 - q) + 1)
theorem sw_lt {a r i : Nat} (hr : a ≤ r) (hi : i < a) : TM.sw a r i = i := TM.sw_o (by omega) (by omega)
theorem GG.br (g : GG n m B q a A U) (h4 : m ≤ 4) (ha : a < m) (L : LeastAt A a m n r c) : Br n m a (brA A a r c) (brU U a c) q := by
  have hla := g.la
  have hac : a < n := by have := L.ac; have := L.cn; omega
  have e := ent_brA g.ra (by omega : a < A.length) (by have := L.rm; omega : r < A.length) hac L.cn
  have eu := ent_brU g.ru hac L.cn
  have sh : ∀ i j, i < a ∨ j < a → i ≠ j → ent (brA A a r c) i j = 0 := fun i j hij hne => by
    rw [e]
    rcases hij with q | q
    · rw [sw_lt L.ar q]
      refine g.sh _ _ (.inl q) ?_
      by_cases hj : j < a
      · rw [sw_lt L.ac hj]; exact hne
      · have := TM.sw_ge L.ac (show a ≤ j by omega); omega
    · rw [sw_lt L.ac q]
      refine g.sh _ _ (.inr q) ?_
      by_cases hi : i < a
      · rw [sw_lt L.ar hi]; exact hne
      · have := TM.sw_ge L.ar (show a ≤ i by omega); omega
  refine ⟨by rw [brA_length]; exact hla, ha, hac, brA_row g.ra (by omega) (by have := L.rm; omega), by unfold brU; rw [List.length_map]; exact g.lu, fun x hx => ?_, ?_, sh, fun i hi => ?_, fun i j hi => ?_, fun i j => ?_⟩
  · obtain ⟨y, hy, rfl⟩ := List.mem_map.mp hx
    rw [colS_length]; exact g.ru y hy
  · rw [e, TM.sw_a, TM.sw_a]; exact L.nz
  · rw [e, sw_lt L.ar hi, sw_lt L.ac hi]; exact g.sd i hi
  · by_cases hj : j < a
    · rw [sh i j (.inr hj) (by omega)]; exact Nat.pow_pos (by decide)
    · rw [e]; exact g.g.ent (by omega) _ _ (TM.sw_ge L.ar hi) (TM.sw_ge L.ac (by omega))
  · rw [eu]; exact g.ub _ _
theorem fdiv_bits {x p : Int} {b : Nat} (hp : p ≠ 0) (h : x.natAbs < 2 ^ b) : (x.fdiv p).natAbs < 2 ^ b := Nat.lt_of_le_of_lt (quo_le hp) h
theorem Br.ok {A1 U1 : List Row} (b : Br n m a A1 U1 q) : ClOk A1 U1 a n := by
  have pb := b.be a a (Nat.le_refl _)
  have hl := b.la
  have ham := b.am
  have han := b.an
  refine ⟨⟨b.p0, ?_⟩, fun k hk y hy => ?_, fun k hk X hX row hrow => ?_⟩
  · exact PySem.Flt.log2_lt_of (by decide) (Nat.lt_of_lt_of_le pb (Nat.pow_le_pow_right (by decide) (by decide)))
  · rw [ent_rowPh _ b.ra k (by omega), if_neg (by omega)]
    obtain ⟨j, rfl⟩ := mem_row_ent hy
    exact bits_mul (fdiv_bits b.p0 (b.be _ _ (by omega))) (b.be _ _ (Nat.le_refl _)) (by decide)
  · subst hX
    have rr := rowPh_row (a := a) (ent A1 a a) b.ra (A1.length - (a + 1)) (by omega)
    obtain ⟨c1, c2⟩ := ent_colPh (a := a) (U := U1) (ent A1 a a) rr b.ru k (by omega)
    have ef : ent (colPh (ent A1 a a) a (rowPh (ent A1 a a) a A1 (A1.length - (a + 1))) U1 k).1 a (a + 1 + k) = ent A1 a (a + 1 + k) := by
      rw [c1, if_neg (by omega), ent_rowAll b.ra (by omega)]
      unfold rowE; rw [if_neg (by omega)]
    rw [ef]
    have fb : ((ent A1 a (a + 1 + k)).fdiv (ent A1 a a)).natAbs < 2 ^ 5840 := fdiv_bits b.p0 (b.be _ _ (Nat.le_refl _))
    rcases List.mem_append.mp hrow with h | h
    · obtain ⟨i, e⟩ := mem_ent h a
      rw [e, c1, if_neg (by omega), ent_rowAll b.ra (by omega)]
      refine bits_mul fb (j := 5840) ?_ (by decide)
      unfold rowE
      by_cases hi : a < i
      · rw [if_pos hi]
        have e2 : ent A1 i a - (ent A1 i a).fdiv (ent A1 a a) * ent A1 a a = (ent A1 i a).fmod (ent A1 a a) := by
          have := Int.mul_fdiv_add_fmod (ent A1 i a) (ent A1 a a)
          rw [Int.mul_comm] at this
          omega
        rw [e2]
        exact Nat.lt_trans (TM.fmod_small b.p0) pb
      · rw [if_neg hi]
        by_cases h2 : i = a
        · subst h2; exact pb
        · rw [b.sh i a (.inl (by omega)) h2]; exact Nat.pow_pos (by decide)
    · obtain ⟨i, e⟩ := mem_ent h a
      rw [e, c2, if_neg (by omega)]
      refine bits_mul fb (b.ub i a) ?_
      have : 5842 * (TM.c1 + 4 - q) ≤ 5842 * 20338 := Nat.mul_le_mul_left _ (by unfold TM.c1; omega)
      omega
theorem clB_iff {A2 : List Row} (hl : A2.length = m) (hr : ∀ r ∈ A2, r.length = n) : clB A2 a n = true ↔ ¬ TM.Fl a (ent A2) := by
  unfold clB
  rw [Bool.and_eq_true, List.all_eq_true, List.all_eq_true]
  constructor
  · rintro ⟨h1, h2⟩ ⟨i, hi, h | h⟩
    · by_cases him : i < A2.length
      · have := h1 (i - (a + 1)) (List.mem_range.mpr (by omega))
        rw [show a + 1 + (i - (a + 1)) = i by omega] at this
        exact h (of_decide_eq_true this)
      · exact h (ent_out (by omega))
    · by_cases hin : i < n
      · have := h2 (i - (a + 1)) (List.mem_range.mpr (by omega))
        rw [show a + 1 + (i - (a + 1)) = i by omega] at this
        exact h (of_decide_eq_true this)
      · exact h (ent_outc hr (by omega))
  · intro h
    refine ⟨fun i hi => decide_eq_true ?_, fun i hi => decide_eq_true ?_⟩
    · exact Classical.byContradiction fun q => h ⟨a + 1 + i, by omega, .inl q⟩
    · exact Classical.byContradiction fun q => h ⟨a + 1 + i, by omega, .inr q⟩
theorem GG.stp (g : GG n m B q a A U) (ha : a < m) (L : LeastAt A a m n r c) {A1 U1 : List Row} (eA : A1 = brA A a r c) (b : Br n m a A1 U1 q) : TM.Stp a (ent A) (ent (clA A1 U1 a n).1) r c := by
  have hla := g.la
  have hac : a < n := b.an
  have e : ent A1 = TM.Nof (ent A) a r c := funext fun i => funext fun j => by
    rw [eA]; exact ent_brA g.ra (by omega : a < A.length) (by have := L.rm; omega : r < A.length) hac L.cn i j
  have k := clr_clA b.ra b.ru (by rw [b.la]; exact ha) hac b.p0
  rw [e] at k
  have hL := L.le
  have rg : ∀ i j, ent A i j ≠ 0 → i < m ∧ j < n := fun i j h => by
    constructor
    · exact Classical.byContradiction fun z => h (ent_out (by omega))
    · exact Classical.byContradiction fun z => h (ent_outc g.ra (by omega))
  refine ⟨L.ar, L.ac, L.nz, fun i j hi hj h => ?_, fun h1 h2 => ⟨fun h => ?_, fun h => ?_⟩, k⟩
  · obtain ⟨a1, a2⟩ := rg i j h
    have := hL i j hi a1 hj a2 h
    omega
  · obtain ⟨a1, a2⟩ := rg a c h
    have := hL a c (Nat.le_refl _) a1 L.ac a2 h
    have := L.ar
    omega
  · obtain ⟨a1, a2⟩ := rg r a h
    have := hL r a L.ar a1 (Nat.le_refl _) a2 h
    have := L.ac
    omega
theorem Br.sp2 {A1 U1 : List Row} (b : Br n m a A1 U1 q) :
    (∀ r ∈ A1, Sp (clA A1 U1 a n).1 (eC a (fun j => (ent A1 a j).fdiv (ent A1 a a)) (V r))) ∧ (∀ r ∈ (clA A1 U1 a n).1, Sp A1 (eC a (fun j => -(ent A1 a j).fdiv (ent A1 a a)) (V r))) := by
  have ham := b.am
  have hl := b.la
  obtain ⟨e1, e2⟩ := ent_clA b.ra b.ru (by omega : a < A1.length) b.an
  obtain ⟨l1, l2, l3, l4⟩ := clA_row (a := a) b.ra b.ru (by omega)
  have hV : ∀ (X : List Row) i, V (X.getD i []) = ent X i := fun X i => rfl
  have eV : ∀ i, ent (clA A1 U1 a n).1 i = eC a (fun j => (ent A1 a j).fdiv (ent A1 a a)) (rowE A1 a i) := fun i => funext fun j => by
    rw [e1]; rfl
  have m1 : ∀ i, i < m → Sp A1 (ent A1 i) := fun i hi => Sp.mem (mem_row b.ra (by omega)).1
  have m2 : ∀ i, i < m → Sp (clA A1 U1 a n).1 (ent (clA A1 U1 a n).1 i) := fun i hi => Sp.mem (mem_row l3 (by omega)).1
  have r0 : rowE A1 a a = ent A1 a := funext fun j => by unfold rowE; rw [if_neg (by omega)]
  refine ⟨fun r hr => ?_, fun r hr => ?_⟩
  · obtain ⟨i, hi, rfl⟩ := List.getElem_of_mem hr
    have e : V A1[i] = ent A1 i := by rw [← hV]; simp [hi]
    rw [e]
    by_cases hia : a < i
    · have f : ent A1 i = fun j => rowE A1 a i j + (ent A1 i a).fdiv (ent A1 a a) * rowE A1 a a j := funext fun j => by
        rw [r0]; unfold rowE; rw [if_pos hia]; omega
      rw [f, (eC_lin a _).a, ← eV, ← eV]
      exact ((m2 i (by omega)).addv ((m2 a ham).smul _)).of fun j => rfl
    · have f : ent A1 i = rowE A1 a i := funext fun j => by unfold rowE; rw [if_neg hia]
      rw [f, ← eV]
      exact m2 i (by omega)
  · obtain ⟨i, hi, rfl⟩ := List.getElem_of_mem hr
    have e : V (clA A1 U1 a n).1[i] = ent (clA A1 U1 a n).1 i := by rw [← hV]; simp [hi]
    rw [e, eV, eC_inv]
    by_cases hia : a < i
    · have f : rowE A1 a i = fun j => ent A1 i j + -(ent A1 i a).fdiv (ent A1 a a) * ent A1 a j := funext fun j => by
        unfold rowE; rw [if_pos hia, Int.neg_mul]; omega
      rw [f]
      exact ((m1 i (by omega)).addv ((m1 a ham).smul _)).of fun j => rfl
    · have f : rowE A1 a i = ent A1 i := funext fun j => by unfold rowE; rw [if_neg hia]
      rw [f]
      exact m1 i (by omega)
theorem GG.sp1 (g : GG n m B q a A U) (ha : a < m) (L : LeastAt A a m n r c) : (∀ x ∈ A, Sp (brA A a r c) (eS a c (V x))) ∧ ∀ x ∈ brA A a r c, Sp A (eS a c (V x)) := by
  have hla := g.la
  have hac : a < n := by have := L.ac; have := L.cn; omega
  have hr : r < A.length := by have := L.rm; omega
  have pm := fun x => (swp_perm (d := ([] : Row)) (by omega : a < A.length) hr).mem_iff (a := x)
  have key : ∀ x ∈ A, V (colS a c x) = eS a c (V x) := fun x hx => funext fun j => colS_getD (g.ra x hx) hac L.cn j
  refine ⟨fun x hx => ?_, fun x hx => ?_⟩
  · rw [← key x hx]
    exact Sp.mem (List.mem_map.mpr ⟨x, (pm x).mpr hx, rfl⟩)
  · obtain ⟨y, hy, rfl⟩ := List.mem_map.mp hx
    have hy := (pm y).mp hy
    rw [key y hy, eS_inv]
    exact Sp.mem hy
theorem GG.dot1 (g : GG n m B q a A U) (hac : a < n) (hc : c < n) (v : Row) : dotU (brU U a c) v = eS a c (dotU U v) := funext fun j => by
  show dotL ((brU U a c).map fun r => r.getD j 0) v = dotL (U.map fun r => r.getD (TM.sw a c j) 0) v
  unfold brU
  rw [List.map_map]
  congr 1
  exact List.map_congr_left fun x hx => colS_getD (g.ru x hx) hac hc j
theorem Br.dot2 {A1 U1 : List Row} (b : Br n m a A1 U1 q) (v : Row) : dotU (clA A1 U1 a n).2 v = eC a (fun j => (ent A1 a j).fdiv (ent A1 a a)) (dotU U1 v) := funext fun j => by
  have ham := b.am
  have hl := b.la
  obtain ⟨e1, e2⟩ := ent_clA b.ra b.ru (by omega : a < A1.length) b.an
  obtain ⟨l1, l2, l3, l4⟩ := clA_row (a := a) b.ra b.ru (by omega)
  show dotL ((clA A1 U1 a n).2.map fun r => r.getD j 0) v = if a < j then dotL (U1.map fun r => r.getD j 0) v - (ent A1 a j).fdiv (ent A1 a a) * dotL (U1.map fun r => r.getD a 0) v else dotL (U1.map fun r => r.getD j 0) v
  by_cases hj : a < j
  · rw [if_pos hj, ← dotL_lin, col_ext l2 (f := fun r => r.getD j 0 - (ent A1 a j).fdiv (ent A1 a a) * r.getD a 0) fun i hi => by rw [e2, if_pos hj]; rfl]
  · rw [if_neg hj, col_ext l2 (f := fun r => r.getD j 0) fun i hi => by rw [e2, if_neg hj]; rfl]
theorem GG.next (g : GG n m B q a A U) (h4 : m ≤ 4) (hn4 : n ≤ 4) (ha : a < m) (L : LeastAt A a m n r c) {A2 U2 : List Row} (e : (A2, U2) = clA (brA A a r c) (brU U a c) a n) :
    ∃ q', q' < q ∧ GG n m B q' (if clB A2 a n = true then a + 1 else a) A2 U2 := by
  have b := g.br h4 ha L
  have hac := b.an
  have s1 := g.sp1 ha L
  have d1 := g.dot1 hac L.cn
  have s2 := b.sp2
  have d2 := b.dot2
  have stp := g.stp ha L rfl b
  have hl := b.la
  obtain ⟨l1, l2, l3, l4⟩ := clA_row (a := a) b.ra b.ru (by omega)
  obtain ⟨e1, e2⟩ := ent_clA b.ra b.ru (by omega : a < (brA A a r c).length) hac
  have f1 : Free m (brA A a r c) := g.fr.lin (eS_lin a c) (eS_inv a c) s1.1
  have f2 := f1.lin (eC_lin a _) (eC_inv a _) s2.1
  have sp : ∀ v : Row, v.length = n → (Sp B (V v) ↔ Sp (clA (brA A a r c) (brU U a c) a n).1 (dotU (clA (brA A a r c) (brU U a c) a n).2 v)) := fun v hv => by
    rw [g.sp v hv, d2, d1]
    constructor
    · intro h
      exact (h.lin (eS_lin a c) s1.1).lin (eC_lin a _) s2.1
    · intro h
      have h1 := h.lin (eC_lin a _) s2.2
      rw [eC_inv] at h1
      have h2 := h1.lin (eS_lin a c) s1.2
      rw [eS_inv] at h2
      exact h2
  have eA : A2 = (clA (brA A a r c) (brU U a c) a n).1 := congrArg Prod.fst e
  have eU : U2 = (clA (brA A a r c) (brU U a c) a n).2 := congrArg Prod.snd e
  rw [← eA] at l1 l3 e1 f2 sp stp
  rw [← eU] at l2 l4 e2 sp
  clear e
  generalize brA A a r c = A1 at *
  generalize brU U a c = U1 at *
  have z4 : TM.Z4 (ent A2) := fun i j hij => by
    rcases hij with h | h
    · exact ent_out (by omega)
    · exact ent_outc l3 (by omega)
  have shp : ∀ i j, i < a ∨ j < a → i ≠ j → ent A2 i j = 0 := fun i j hij hne => by
    rw [e1]
    by_cases hi : i < a
    · have r1 : ∀ j, i ≠ j → rowE A1 a i j = 0 := fun j hj => by unfold rowE; rw [if_neg (by omega)]; exact b.sh i j (.inl hi) hj
      rw [r1 j hne, r1 a (by omega)]
      simp
    · have hj : j < a := by omega
      rw [if_neg (by omega)]
      unfold rowE
      rw [b.sh i j (.inr hj) hne, b.sh a j (.inr hj) (by omega)]
      simp
  have sdp : ∀ i, i < a → ent A2 i i ≠ 0 ∧ (ent A2 i i).natAbs < 2 ^ 5840 := fun i hi => by
    rw [e1, if_neg (by omega)]
    unfold rowE
    rw [if_neg (by omega)]
    exact b.sd i hi
  have ub : ∀ q', q' < q → ∀ i j, (ent U2 i j).natAbs < 2 ^ (5842 * (TM.c1 + 4 - q') + 1) := fun q' hq i j => by
    have hqc := g.g.q_le
    have u0 := b.ub i j
    have u1 := b.ub i a
    have x1 : 2 ^ (5842 * (TM.c1 + 4 - q) + 1) * 2 ^ 5842 ≤ 2 ^ (5842 * (TM.c1 + 4 - q') + 1) := by
      rw [← Nat.pow_add]
      refine Nat.pow_le_pow_right (by decide) ?_
      have : 5842 * (TM.c1 + 4 - q) + 5842 ≤ 5842 * (TM.c1 + 4 - q') := by
        have := Nat.mul_le_mul_left 5842 (show TM.c1 + 4 - q + 1 ≤ TM.c1 + 4 - q' by omega)
        omega
      omega
    have x2 : (2 : Nat) ^ 5842 = 4 * 2 ^ 5840 := by rw [show 5842 = 2 + 5840 from rfl, Nat.pow_add]
    have x3 : 0 < (2 : Nat) ^ 5840 := Nat.pow_pos (by decide)
    rw [e2]
    generalize (2 : Nat) ^ (5842 * (TM.c1 + 4 - q) + 1) = X at *
    generalize (2 : Nat) ^ (5842 * (TM.c1 + 4 - q') + 1) = Y at *
    have hX : X * 2 ^ 5842 = 4 * (X * 2 ^ 5840) := by rw [x2, Nat.mul_left_comm]
    have hX2 : X ≤ X * 2 ^ 5840 := Nat.le_mul_of_pos_right _ x3
    by_cases hj : a < j
    · rw [if_pos hj]
      have fb : ((ent A1 a j).fdiv (ent A1 a a)).natAbs ≤ 2 ^ 5840 := Nat.le_of_lt (fdiv_bits b.p0 (b.be _ _ (Nat.le_refl _)))
      have h1 := TM.mul_bd fb (Nat.le_of_lt u1)
      have h2 := Int.natAbs_sub_le (ent U1 i j) ((ent A1 a j).fdiv (ent A1 a a) * ent U1 i a)
      rw [Nat.mul_comm] at h1
      generalize X * 2 ^ 5840 = W at *
      omega
    · rw [if_neg hj]
      generalize X * 2 ^ 5840 = W at *
      omega
  have st := g.g.step (by omega) stp z4
  have iff := clB_iff (a := a) (l1.trans b.la) l3
  by_cases hb : clB A2 a n = true
  · rw [if_pos hb]
    have nf := iff.mp hb
    obtain ⟨q', hq, gm⟩ := st.2 nf
    refine ⟨q', hq, l1.trans b.la, ha, l3, l2.trans b.lu, l4, gm, fun i j hij hne => ?_, fun i hi => ?_, ub q' hq, sp, f2⟩
    · by_cases hl : i < a ∨ j < a
      · exact shp i j hl hne
      · refine Classical.byContradiction fun z => nf ?_
        by_cases hi : i = a
        · subst hi; exact ⟨j, by omega, .inr z⟩
        · have : j = a := by omega
          subst this; exact ⟨i, by omega, .inl z⟩
    · by_cases hia : i < a
      · exact sdp i hia
      · have : i = a := by omega
        subst this
        rw [e1, if_neg (by omega)]
        unfold rowE
        rw [if_neg (by omega)]
        exact ⟨b.p0, b.be _ _ (Nat.le_refl _)⟩
  · rw [if_neg hb]
    have fl : TM.Fl a (ent A2) := Classical.byContradiction fun z => hb (iff.mpr z)
    obtain ⟨q', hq, gm⟩ := st.1 fl
    exact ⟨q', hq, l1.trans b.la, by omega, l3, l2.trans b.lu, l4, gm, shp, sdp, ub q' hq, sp, f2⟩
theorem gg_inv (h4 : m ≤ 4) (hn4 : n ≤ 4) : TurnInv n m (GG n m B) where
  len := fun q a A U g => ⟨g.la, g.am⟩
  step := fun q a A U g ha => by
    obtain ⟨i, j, h1, h2, h3, h5, h6⟩ := g.block ha
    exact ⟨by omega, ⟨i, j, h1, h2, h3, h5, h6⟩, fun r c L => ⟨(g.br h4 ha L).ok, fun A' U' e => g.next h4 hn4 ha L e⟩⟩
end
end K86
namespace K86
open PySem L2 WL
/-! ### the checks that a turned table tells -/
theorem modAt_lt {A : List Row} {j : Nat} (h : j < A.length) : modAt A j = ((ent A j j).natAbs : Int) := by unfold modAt; rw [if_pos h]
theorem modAt_ge {A : List Row} {j : Nat} (h : A.length ≤ j) : modAt A j = 0 := by unfold modAt; rw [if_neg (by omega)]
/-- the numbers less multiples of the modulus -/
theorem dot_mod (f : Row → Int) (m : Int) : ∀ (U : List Row) (v : List Int), m ∣ dotL (U.map f) v - dotL (U.map fun r => (f r).fmod m) v
  | [], v => by simp [dotL]
  | r :: U, [] => by simp [dotL]
  | r :: U, x :: v => by
    obtain ⟨k, ih⟩ := dot_mod f m U v
    have h := Int.mul_fdiv_add_fmod (f r) m
    refine ⟨(f r).fdiv m * x + k, ?_⟩
    simp only [dotL, List.map_cons, List.zipWith_cons_cons, List.sum_cons] at ih ⊢
    generalize (f r).fmod m = y at *
    generalize (f r).fdiv m = z at *
    rw [← h]
    generalize (List.zipWith (fun x y => x * y) (List.map f U) v).sum = s1 at *
    generalize (List.zipWith (fun x y => x * y) (List.map (fun r => (f r).fmod m) U) v).sum = s2 at *
    grind
theorem fmod_zero_iff {x m : Int} : x.fmod m = 0 ↔ m ∣ x := ⟨Int.dvd_of_fmod_eq_zero, Int.fmod_eq_zero_of_dvd⟩
/-- what a row must be at a place -/
def Cd (A : List Row) (w : Fn) (j : Nat) : Prop := if j < A.length then ent A j j ∣ w j else w j = 0
theorem keeps_cd {A U : List Row} {v : Row} {j : Nat} (hd : ∀ i, i < A.length → ent A i i ≠ 0) : keepsB (chkAt A U j).1 (chkAt A U j).2 v = true ↔ Cd A (dotU U v) j := by
  unfold keepsB chkAt Cd
  by_cases hj : j < A.length
  · have e := modAt_lt hj
    have h0 := hd j hj
    have m0 : modAt A j ≠ 0 := by rw [e]; omega
    simp only [m0, if_false]
    rw [if_pos hj, decide_eq_true_eq, fmod_zero_iff]
    have dm := dot_mod (fun r => r.getD j 0) (modAt A j) U v
    have dm2 : modAt A j ∣ dotU U v j - dotL (U.map fun r => (r.getD j 0).fmod (modAt A j)) v := dm
    have dd : modAt A j ∣ dotU U v j ↔ ent A j j ∣ dotU U v j := by rw [e]; exact Int.natAbs_dvd
    rw [← dd]
    constructor
    · intro h
      have := Int.dvd_add dm2 h
      rwa [Int.sub_add_cancel] at this
    · intro h
      have := Int.dvd_sub h dm2
      rwa [Int.sub_sub_self] at this
  · have e := modAt_ge (A := A) (j := j) (by omega)
    simp only [e, if_true]
    rw [if_neg hj, decide_eq_true_eq]
    exact Iff.rfl
theorem cd_one {A : List Row} {w : Fn} {j : Nat} (h : modAt A j = 1) : Cd A w j := by
  unfold Cd
  by_cases hj : j < A.length
  · rw [if_pos hj]
    rw [modAt_lt hj] at h
    have : ent A j j = 1 ∨ ent A j j = -1 := by omega
    rcases this with e | e <;> rw [e]
    · exact Int.one_dvd _
    · exact ⟨-(w j), by omega⟩
  · rw [modAt_ge (by omega)] at h; cases h
section
variable {n m q : Nat} {B A U : List Row}
theorem GG.diag (g : GG n m B q m A U) (w : Fn) (hw : ∀ j, n ≤ j → w j = 0) : Sp A w ↔ ∀ j, j < n → Cd A w j := by
  have hl := g.la
  have off : ∀ i j, i < m → i ≠ j → ent A i j = 0 := fun i j hi hne => g.sh i j (.inl hi) hne
  constructor
  · intro h
    induction h with
    | zero => intro j _; unfold Cd; split; exact Int.dvd_zero _; rfl
    | @add v r c hr hv ih =>
      intro j hj
      obtain ⟨i, hi, rfl⟩ := List.getElem_of_mem hr
      have e : A[i].getD j 0 = ent A i j := by unfold ent; rw [show A.getD i [] = A[i] by simp [hi]]
      have ih := ih (fun j hj => by
        have this : v j + c * A[i].getD j 0 = 0 := hw j hj
        have e2 : A[i].getD j 0 = 0 := by
          have := g.ra _ (List.getElem_mem hi)
          rw [List.getD_eq_getElem?_getD, List.getElem?_eq_none (by omega)]; rfl
        rw [e2] at this
        omega) j hj
      unfold Cd at ih ⊢
      show if j < A.length then ent A j j ∣ v j + c * A[i].getD j 0 else v j + c * A[i].getD j 0 = 0
      rw [e]
      by_cases hij : i = j
      · subst hij
        rw [if_pos hi] at ih ⊢
        exact Int.dvd_add ih (Int.dvd_mul_left _ _)
      · rw [off i j (by omega) hij, Int.mul_zero, Int.add_zero]
        exact ih
  · intro h
    have key : ∀ k, k ≤ m → Sp A (fun j => if j < k then w j else 0) := by
      intro k
      induction k with
      | zero => intro _; exact Sp.zero.of fun i => by simp
      | succ k ih =>
        intro hk
        have hkl : k < A.length := by omega
        by_cases hkn : k < n
        · have hc := h k hkn
          unfold Cd at hc
          rw [if_pos hkl] at hc
          obtain ⟨d, hd⟩ := hc
          have hr := (mem_row g.ra hkl).1
          refine (Sp.add d hr (ih (by omega))).of fun j => ?_
          show (if j < k then w j else 0) + d * ent A k j = if j < k + 1 then w j else 0
          by_cases hjk : j = k
          · subst hjk
            rw [if_neg (by omega), if_pos (by omega), hd, Int.mul_comm]; omega
          · rw [off k j (by omega) (fun e => hjk e.symm)]
            by_cases h2 : j < k
            · rw [if_pos h2, if_pos (by omega)]; simp
            · rw [if_neg h2, if_neg (by omega)]; simp
        · refine (ih (by omega)).of fun j => ?_
          by_cases h2 : j < k
          · rw [if_pos h2, if_pos (by omega)]
          · rw [if_neg h2]
            by_cases h3 : j < k + 1
            · rw [if_pos h3, hw j (by omega)]
            · rw [if_neg h3]
    refine (key m (Nat.le_refl _)).of fun j => ?_
    by_cases h2 : j < m
    · rw [if_pos h2]
    · rw [if_neg h2]
      by_cases hj : j < n
      · have := h j hj
        unfold Cd at this
        rw [if_neg (by omega)] at this
        exact this.symm
      · exact (hw j (by omega)).symm
theorem GG.check (g : GG n m B q m A U) (hB : HN n B) : CkOk n B (checksL A U n) := by
  have hl := g.la
  have hd : ∀ i, i < A.length → ent A i i ≠ 0 := fun i hi => (g.sd i (by omega)).1
  have mem : ∀ c, c ∈ checksL A U n ↔ ∃ j, j < n ∧ modAt A j ≠ 1 ∧ chkAt A U j = c := fun c => by
    unfold checksL
    simp only [List.mem_map, List.mem_filter, List.mem_range, decide_eq_true_eq]
    constructor
    · rintro ⟨j, ⟨h1, h2⟩, h3⟩; exact ⟨j, h1, h2, h3⟩
    · rintro ⟨j, h1, h2, h3⟩; exact ⟨j, ⟨h1, h2⟩, h3⟩
  refine ⟨?_, fun c hc => ?_, fun c hc r hr hb x hx y hy => ?_, fun r hr hb => ?_⟩
  · unfold checksL
    rw [List.length_map]
    exact Nat.le_trans (List.length_filter_le _ _) (by simp)
  · obtain ⟨j, h1, h2, rfl⟩ := (mem c).mp hc
    refine ⟨?_, h2, by simp [chkAt, g.lu]⟩
    show 0 ≤ modAt A j
    unfold modAt; split <;> omega
  · obtain ⟨j, h1, h2, rfl⟩ := (mem c).mp hc
    have hy := hb y hy
    have hq : 5842 * (TM.c1 + 4 - q) ≤ 5842 * 20338 := Nat.mul_le_mul_left _ (by unfold TM.c1; omega)
    obtain ⟨row, hrow, rfl⟩ := List.mem_map.mp hx
    obtain ⟨i, e⟩ := mem_ent hrow j
    by_cases h0 : modAt A j = 0
    · rw [if_pos h0, e]
      exact bits_mul (g.ub i j) hy (by omega)
    · rw [if_neg h0]
      have hj : j < A.length := Classical.byContradiction fun z => h0 (modAt_ge (by omega))
      have hs := TM.fmod_small (a := row.getD j 0) h0
      have hb2 := (g.sd j (by omega)).2
      rw [modAt_lt hj] at hs ⊢
      have : ((row.getD j 0).fmod ((ent A j j).natAbs : Int)).natAbs < 2 ^ 5840 := by
        generalize (2 : Nat) ^ 5840 = X at *
        omega
      exact bits_mul this hy (by decide)
  · have hw : ∀ j, n ≤ j → dotU U r j = 0 := fun j hj => dotU_out g.ru r hj
    have e1 : (checksL A U n).all (fun c => keepsB c.1 c.2 r) = true ↔ spB B r = true := by
      rw [spB_iff hB hr, g.sp r hr, g.diag _ hw, List.all_eq_true]
      constructor
      · intro h j hj
        by_cases h1 : modAt A j = 1
        · exact cd_one h1
        · exact (keeps_cd hd).mp (h _ ((mem _).mpr ⟨j, hj, h1, rfl⟩))
      · intro h c hc
        obtain ⟨j, h1, h2, rfl⟩ := (mem c).mp hc
        exact (keeps_cd hd).mpr (h j h1)
    exact Bool.eq_iff_iff.mpr e1
/-- the start -/
theorem gg_start (h4 : B.length ≤ 4) (hn4 : n ≤ 4) (hB : HN n B) (h0 : TM.G0 0 (ent B)) : GG n B.length B (TM.c1 + 4) 0 B (idm n) := by
  have hr : ∀ r ∈ B, r.length = n := fun r hr => (hB.row r hr).1
  refine ⟨rfl, Nat.zero_le _, hr, idm_length n, fun r hr => ?_, ⟨fun i j hij => ?_, 0, h0, rfl⟩, fun i j hij => by omega, fun i hi => by omega, fun i j => ?_, fun v hv => ?_, hn_free hB⟩
  · obtain ⟨a, _, rfl⟩ := List.mem_map.mp hr
    exact unitR_length n a
  · rcases hij with h | h
    · exact ent_out (by omega)
    · exact ent_outc hr (by omega)
  · have : ent (idm n) i j = 0 ∨ ent (idm n) i j = 1 := by
      unfold ent
      by_cases hi : i < n
      · have e : (idm n).getD i [] = unitR n i := by simp [idm, hi]
        rw [e]
        by_cases hj : j < n
        · have : (unitR n i).getD j 0 = if j = i then 1 else 0 := by simp [unitR, hj]
          rw [this]; split
          · exact .inr rfl
          · exact .inl rfl
        · left
          rw [List.getD_eq_getElem?_getD, List.getElem?_eq_none (by rw [unitR_length]; omega)]; rfl
      · left
        rw [getD_out (by rw [idm_length]; omega)]; rfl
    rw [Nat.sub_self]
    rcases this with e | e <;> rw [e] <;> decide
  · rw [dotU_idm hv]
end
end K86
namespace K86
open PySem L2 WL
/-! ### how great a basis of small rows is -/
/-- functions that span the basis, times numbers, lie in its span and are bounded -/
structure Sm2 (K : Nat) (L : List Fn) (B : List Row) : Prop where
  c : Cov L B
  s : ∀ x ∈ L, Sp B x
  b : ∀ x ∈ L, ∀ i, (x i).natAbs ≤ K
theorem Sm2.tail {n K : Nat} {L : List Fn} {b : Row} {C : List Row} (hB : HN n (b :: C)) (h : Sm2 K L (b :: C)) : ∃ l, Sp (b :: C) l ∧ (∀ i, (l i).natAbs ≤ K) ∧ l (pv b) ≠ 0 ∧ ∃ L', Sm2 (2 * (K * K)) L' C := by
  obtain ⟨_, _, p3⟩ := hB.row b (List.mem_cons_self ..)
  have hex : ∃ l ∈ L, l (pv b) ≠ 0 := by
    refine Classical.byContradiction fun hn => ?_
    have hz : ∀ l ∈ L, l (pv b) = 0 := fun l hl => Classical.byContradiction fun q => hn ⟨l, hl, q⟩
    obtain ⟨k, k0, hk⟩ := h.c b (List.mem_cons_self ..)
    have z : ∀ {w : Fn}, SpF L w → w (pv b) = 0 := fun {w} hw => by
      induction hw with
      | zero => rfl
      | @add v x c hx _ ih => show v (pv b) + c * x (pv b) = 0; rw [ih, hz x hx]; simp
    have := z hk
    rcases Int.mul_eq_zero.mp this with q | q
    · exact k0 q
    · simp only [V] at q; omega
  obtain ⟨l, hl, l0⟩ := hex
  refine ⟨l, h.s l hl, h.b l hl, l0, L.map fun x => fun i => l (pv b) * x i - x (pv b) * l i, fun r hr => ?_, fun y hy => ?_, fun y hy i => ?_⟩
  · have key : ∀ {w : Fn}, SpF L w → SpF (L.map fun x => fun i => l (pv b) * x i - x (pv b) * l i) (fun i => l (pv b) * w i - w (pv b) * l i) := fun {w} hw => by
      induction hw with
      | zero => exact SpF.zero.of fun i => by simp
      | @add v x c hx _ ih => exact (SpF.add c (List.mem_map.mpr ⟨x, hx, rfl⟩) ih).of fun i => by grind
    obtain ⟨k, k0, hk⟩ := h.c r (List.mem_cons_of_mem _ hr)
    refine ⟨l (pv b) * k, fun z => by rcases Int.mul_eq_zero.mp z with z | z; exact l0 z; exact k0 z, (key hk).of fun i => ?_⟩
    have hz : r.getD (pv b) 0 = 0 := hB.later hr (Nat.le_refl _)
    show l (pv b) * (k * V r i) - k * r.getD (pv b) 0 * l i = l (pv b) * k * V r i
    rw [hz]
    grind
  · obtain ⟨x, hx, rfl⟩ := List.mem_map.mp hy
    refine hB.tl.mpr ⟨?_, by grind⟩
    exact (((h.s x hx).smul (l (pv b))).addv ((h.s l hl).smul (-x (pv b)))).of fun i => by grind
  · obtain ⟨x, hx, rfl⟩ := List.mem_map.mp hy
    have h1 := TM.mul_bd (h.b l hl (pv b)) (h.b x hx i)
    have h2 := TM.mul_bd (h.b x hx (pv b)) (h.b l hl i)
    have h3 := Int.natAbs_sub_le (l (pv b) * x i) (x (pv b) * l i)
    show (l (pv b) * x i - x (pv b) * l i).natAbs ≤ 2 * (K * K)
    omega
/-- the first coefficient -/
theorem lead {n K : Nat} {b : Row} {C : List Row} (hB : HN n (b :: C)) {l : Fn} (hl : Sp (b :: C) l) (hK : ∀ i, (l i).natAbs ≤ K) : ∃ (a : Int) (w : Fn), Sp C w ∧ (∀ i, l i = a * b.getD i 0 + w i) ∧ a.natAbs ≤ K ∧ (l (pv b) ≠ 0 → a ≠ 0 ∧ (b.getD (pv b) 0).natAbs ≤ K) := by
  obtain ⟨_, _, p3⟩ := hB.row b (List.mem_cons_self ..)
  obtain ⟨a, w, hw, e⟩ := hl.cons
  have hz : w (pv b) = 0 := hw.at0 fun r hr => hB.later hr (Nat.le_refl _)
  have ep := e (pv b)
  rw [hz, Int.add_zero] at ep
  have hk := hK (pv b)
  rw [ep, Int.natAbs_mul] at hk
  have p1 : 1 ≤ (b.getD (pv b) 0).natAbs := by omega
  refine ⟨a, w, hw, e, ?_, fun h0 => ?_⟩
  · exact Nat.le_trans (Nat.le_mul_of_pos_right _ p1) hk
  · have a0 : a ≠ 0 := fun z => h0 (by rw [ep, z]; simp)
    exact ⟨a0, Nat.le_trans (Nat.le_mul_of_pos_left _ (by omega)) hk⟩
theorem le_mul_nz {a x : Int} (h : a ≠ 0) : x.natAbs ≤ (a * x).natAbs := by
  rw [Int.natAbs_mul]; exact Nat.le_mul_of_pos_left _ (by omega)
theorem f1 {n K : Nat} {L : List Fn} {b : Row} (hB : HN n [b]) (h : Sm2 K L [b]) : ∀ i, (b.getD i 0).natAbs ≤ K := by
  obtain ⟨l, h1, h2, h3, _⟩ := h.tail hB
  obtain ⟨a, w, hw, e, _, hz⟩ := lead hB h1 h2
  intro i
  have ei := e i
  rw [hw.nil i, Int.add_zero] at ei
  have := le_mul_nz (x := b.getD i 0) (hz h3).1
  rw [← ei] at this
  exact Nat.le_trans this (h2 i)
/-- the second coefficient: c stands behind b -/
theorem coef {K p : Nat} {a y x q : Int} (hp : 0 < p) (ha : a.natAbs ≤ K) (hl : x.natAbs ≤ K) (hy : y.natAbs < p) (e : x - a * y = q * p) : q.natAbs ≤ K := by
  have h1 : (a * y).natAbs ≤ K * (p - 1) := TM.mul_bd ha (by omega)
  have h2 := Int.natAbs_sub_le x (a * y)
  rw [e, Int.natAbs_mul] at h2
  have h3 : q.natAbs * p ≤ K * p := by
    have e2 : K * p = K + K * (p - 1) := by
      obtain ⟨r, rfl⟩ : ∃ r, p = r + 1 := ⟨p - 1, by omega⟩
      rw [Nat.mul_succ, Nat.add_sub_cancel]; omega
    rw [e2]
    have : ((p : Int)).natAbs = p := by simp
    rw [this] at h2
    omega
  exact Nat.le_of_mul_le_mul_right h3 hp
theorem f2 {n K : Nat} {L : List Fn} {b c : Row} (hB : HN n [b, c]) (h : Sm2 K L [b, c]) : (∀ i, (c.getD i 0).natAbs ≤ 2 * (K * K)) ∧ ∀ i, (b.getD i 0).natAbs ≤ K + K * (2 * (K * K)) := by
  obtain ⟨l, h1, h2, h3, L', h4⟩ := h.tail hB
  have hc := f1 hB.tail h4
  obtain ⟨a, w, hw, e, ha, hz⟩ := lead hB h1 h2
  obtain ⟨a', w', hw', e'⟩ := hw.cons
  obtain ⟨pw1, _⟩ := List.pairwise_cons.mp hB.pw
  have pbc := pw1 c (List.mem_cons_self ..)
  have pc := (hB.row c (by simp)).2.2
  have ha' : a'.natAbs ≤ K := by
    have e1 := e (pv c)
    have e2 := e' (pv c)
    rw [hw'.nil, Int.add_zero] at e2
    refine coef (p := (c.getD (pv c) 0).natAbs) (x := l (pv c)) (y := b.getD (pv c) 0) (by omega) ha (h2 _) (by omega) ?_
    have : ((c.getD (pv c) 0).natAbs : Int) = c.getD (pv c) 0 := by omega
    rw [this, ← e2, e1]; omega
  refine ⟨hc, fun i => ?_⟩
  have e1 := e i
  have e2 := e' i
  rw [hw'.nil, Int.add_zero] at e2
  have h5 := le_mul_nz (x := b.getD i 0) (hz h3).1
  have h6 := TM.mul_bd ha' (hc i)
  have h7 := h2 i
  have e3 : a * b.getD i 0 = l i - a' * c.getD i 0 := by omega
  rw [e3] at h5
  have := Int.natAbs_sub_le (l i) (a' * c.getD i 0)
  omega
theorem f3 {n K : Nat} {L : List Fn} {b c d : Row} (hB : HN n [b, c, d]) (h : Sm2 K L [b, c, d]) (K1 K2 : Nat) (hK1 : K1 = 2 * (K * K)) (hK2 : K2 = 2 * (K1 * K1)) :
    (∀ i, (d.getD i 0).natAbs ≤ K2) ∧ (∀ i, (c.getD i 0).natAbs ≤ K1 + K1 * K2) ∧ ∀ i, (b.getD i 0).natAbs ≤ K + K * (K1 + K1 * K2) + 2 * K * K2 := by
  obtain ⟨l, h1, h2, h3, L', h4⟩ := h.tail hB
  rw [← hK1] at h4
  obtain ⟨hd, hc⟩ := f2 hB.tail h4
  rw [← hK2] at hd hc
  obtain ⟨a, w, hw, e, ha, hz⟩ := lead hB h1 h2
  obtain ⟨a1, w1, hw1, e1⟩ := hw.cons
  obtain ⟨a2, w2, hw2, e2⟩ := hw1.cons
  obtain ⟨pw1, pw1'⟩ := List.pairwise_cons.mp hB.pw
  obtain ⟨pw2, _⟩ := List.pairwise_cons.mp pw1'
  have pbc := pw1 c (by simp)
  have pbd := pw1 d (by simp)
  have pcd := pw2 d (by simp)
  have pc := (hB.row c (by simp)).2.2
  have pd := (hB.row d (by simp)).2.2
  have hw1c : w1 (pv c) = 0 := hw1.at0 fun r hr => hB.tail.later hr (Nat.le_refl _)
  have ha1 : a1.natAbs ≤ K := by
    have q1 := e (pv c)
    have q2 := e1 (pv c)
    rw [hw1c, Int.add_zero] at q2
    refine coef (p := (c.getD (pv c) 0).natAbs) (x := l (pv c)) (y := b.getD (pv c) 0) (by omega) ha (h2 _) (by omega) ?_
    have : ((c.getD (pv c) 0).natAbs : Int) = c.getD (pv c) 0 := by omega
    rw [this, ← q2, q1]; omega
  have ha2 : a2.natAbs ≤ 2 * K := by
    have q1 := e (pv d)
    have q2 := e1 (pv d)
    have q3 := e2 (pv d)
    rw [hw2.nil, Int.add_zero] at q3
    have m1 := TM.mul_bd ha (show (b.getD (pv d) 0).natAbs ≤ (d.getD (pv d) 0).natAbs - 1 by omega)
    have m2 := TM.mul_bd ha1 (show (c.getD (pv d) 0).natAbs ≤ (d.getD (pv d) 0).natAbs - 1 by omega)
    have m3 := h2 (pv d)
    have q4 : a2 * d.getD (pv d) 0 = l (pv d) - a * b.getD (pv d) 0 - a1 * c.getD (pv d) 0 := by omega
    have m4 : (a2 * d.getD (pv d) 0).natAbs ≤ 2 * K * (d.getD (pv d) 0).natAbs := by
      rw [q4]
      have t1 := Int.natAbs_sub_le (l (pv d) - a * b.getD (pv d) 0) (a1 * c.getD (pv d) 0)
      have t2 := Int.natAbs_sub_le (l (pv d)) (a * b.getD (pv d) 0)
      have p1 : 1 ≤ (d.getD (pv d) 0).natAbs := by omega
      clear q1 q2 q3 q4 e e1 e2 hd hc
      generalize (d.getD (pv d) 0).natAbs = p at *
      obtain ⟨r, rfl⟩ : ∃ r, p = r + 1 := ⟨p - 1, by omega⟩
      rw [Nat.add_sub_cancel] at m1 m2
      have e3 : 2 * K * (r + 1) = 2 * (K * r) + 2 * K := by rw [Nat.mul_succ, Nat.mul_assoc]
      rw [e3]
      omega
    rw [Int.natAbs_mul] at m4
    exact Nat.le_of_mul_le_mul_right m4 (by omega)
  refine ⟨hd, hc, fun i => ?_⟩
  have q1 := e i
  have q2 := e1 i
  have q3 := e2 i
  rw [hw2.nil, Int.add_zero] at q3
  have h5 := le_mul_nz (x := b.getD i 0) (hz h3).1
  have h6 := TM.mul_bd ha1 (hc i)
  have h8 := TM.mul_bd ha2 (hd i)
  have h7 := h2 i
  have q4 : a * b.getD i 0 = l i - a1 * c.getD i 0 - a2 * d.getD i 0 := by omega
  rw [q4] at h5
  have t1 := Int.natAbs_sub_le (l i - a1 * c.getD i 0) (a2 * d.getD i 0)
  have t2 := Int.natAbs_sub_le (l i) (a1 * c.getD i 0)
  omega
/-- the pivots -/
theorem f4 {n K : Nat} {L : List Fn} {b : Row} {C : List Row} (hB : HN n (b :: C)) (h : Sm2 K L (b :: C)) : (b.getD (pv b) 0).natAbs ≤ K := by
  obtain ⟨l, h1, h2, h3, L', h4⟩ := h.tail hB
  obtain ⟨a, w, hw, e, ha, hz⟩ := lead hB h1 h2
  exact (hz h3).2
def Qf : Nat → Nat
  | 0 => 278660
  | 1 => 65568
  | 2 => 2048
  | _ => 0
def Pf : Nat → Nat
  | 0 => 4
  | 1 => 32
  | 2 => 2048
  | 3 => 2 ^ 23
  | _ => 0
theorem rows3 {n : Nat} {L : List Fn} {B : List Row} (hB : HN n B) (h : Sm2 4 L B) (hl : B.length ≤ 3) : ∀ i j, (ent B i j).natAbs ≤ Qf i := by
  intro i j
  match B, hB, h, hl with
  | [], _, _, _ => rw [ent_out (by simp)]; simp
  | [b], hB, h, _ =>
    by_cases hi : i = 0
    · subst hi; exact Nat.le_trans (f1 hB h j) (by decide)
    · rw [ent_out (by simp; omega)]; simp
  | [b, c], hB, h, _ =>
    obtain ⟨hc, hb⟩ := f2 hB h
    by_cases hi : i = 0
    · subst hi; exact Nat.le_trans (hb j) (by decide)
    by_cases hi : i = 1
    · subst hi; exact Nat.le_trans (hc j) (by decide)
    · rw [ent_out (by simp; omega)]; simp
  | [b, c, d], hB, h, _ =>
    obtain ⟨hd, hc, hb⟩ := f3 hB h 32 2048 rfl rfl
    by_cases hi : i = 0
    · subst hi; exact Nat.le_trans (hb j) (by decide)
    by_cases hi : i = 1
    · subst hi; exact Nat.le_trans (hc j) (by decide)
    by_cases hi : i = 2
    · subst hi; exact Nat.le_trans (hd j) (by decide)
    · rw [ent_out (by simp; omega)]; simp
theorem cols4 {L : List Fn} {B : List Row} (hB : HN 4 B) (h : Sm2 4 L B) (hl : B.length = 4) : ∀ i j, (ent B i j).natAbs ≤ Pf j := by
  match B, hB, h, hl with
  | [b, c, d, e], hB, h, _ =>
    obtain ⟨_, _, _, _, L1, s1⟩ := h.tail hB
    obtain ⟨_, _, _, _, L2, s2⟩ := s1.tail hB.tail
    obtain ⟨_, _, _, _, L3, s3⟩ := s2.tail hB.tail.tail
    have p0 := f4 hB h
    have p1 := f4 hB.tail s1
    have p2 := f4 hB.tail.tail s2
    have p3 := f4 hB.tail.tail.tail s3
    obtain ⟨w1, w1'⟩ := List.pairwise_cons.mp hB.pw
    obtain ⟨w2, w2'⟩ := List.pairwise_cons.mp w1'
    obtain ⟨w3, _⟩ := List.pairwise_cons.mp w2'
    have bc := w1 c (by simp)
    have bd := w1 d (by simp)
    have be := w1 e (by simp)
    have cd := w2 d (by simp)
    have ce := w2 e (by simp)
    have de := w3 e (by simp)
    have rb := hB.row b (by simp)
    have rc := hB.row c (by simp)
    have rd := hB.row d (by simp)
    have re := hB.row e (by simp)
    have v0 : pv b = 0 := by omega
    have v1 : pv c = 1 := by omega
    have v2 : pv d = 2 := by omega
    have v3 : pv e = 3 := by omega
    rw [v0] at p0
    rw [v1] at p1 bc
    rw [v2] at p2 bd cd
    rw [v3] at p3 be ce de
    have zc0 : c.getD 0 0 = 0 := pv_before' (by omega)
    have zd0 : d.getD 0 0 = 0 := pv_before' (by omega)
    have zd1 : d.getD 1 0 = 0 := pv_before' (by omega)
    have ze0 : e.getD 0 0 = 0 := pv_before' (by omega)
    have ze1 : e.getD 1 0 = 0 := pv_before' (by omega)
    have ze2 : e.getD 2 0 = 0 := pv_before' (by omega)
    have q1 : (2 * (4 * 4) : Nat) = 32 := rfl
    have q2 : (2 * (32 * 32) : Nat) = 2048 := rfl
    have q3 : (2 * (2048 * 2048) : Nat) = 2 ^ 23 := rfl
    rw [q1] at p1
    rw [q1, q2] at p2
    rw [q1, q2, q3] at p3
    intro i j
    by_cases hj : 4 ≤ j
    · rw [ent_outc (fun r hr => (hB.row r hr).1) hj]; simp
    by_cases hi : 4 ≤ i
    · rw [ent_out hi]; simp
    have ci : i = 0 ∨ i = 1 ∨ i = 2 ∨ i = 3 := by omega
    have cj : j = 0 ∨ j = 1 ∨ j = 2 ∨ j = 3 := by omega
    have E : ∀ i j, ent [b, c, d, e] i j = ([b, c, d, e].getD i []).getD j 0 := fun _ _ => rfl
    rw [E]
    rcases ci with hi | hi | hi | hi <;> subst hi <;> rcases cj with hj | hj | hj | hj <;> subst hj <;> simp only [List.getD_cons_zero, List.getD_cons_succ, Pf] <;> omega
theorem d4_zero {M : TM.Mx} (hz : ∀ i j, 3 ≤ i → M i j = 0) (i k q t j l o e : Nat) : TM.d4 M i k q t j l o e = 0 := by
  have rz : ∀ i k q t j l o e, (∀ y, M i y = 0) → TM.d4 M i k q t j l o e = 0 := fun i k q t j l o e hz => by simp only [TM.d4, hz]; grind
  by_cases g1 : 3 ≤ i
  · exact rz _ _ _ _ _ _ _ _ fun y => hz i y g1
  by_cases g2 : 3 ≤ k
  · rw [TM.d4_r12, rz _ _ _ _ _ _ _ _ fun y => hz k y g2]; rfl
  by_cases g3 : 3 ≤ q
  · rw [TM.d4_r13, rz _ _ _ _ _ _ _ _ fun y => hz q y g3]; rfl
  by_cases g4 : 3 ≤ t
  · rw [TM.d4_r14, rz _ _ _ _ _ _ _ _ fun y => hz t y g4]; rfl
  have : i = k ∨ i = q ∨ i = t ∨ k = q ∨ k = t ∨ q = t := by omega
  rcases this with g | g | g | g | g | g <;> subst g <;> simp only [TM.d4, TM.d3, TM.d2] <;> grind
theorem qf2 : ∀ i, i < 3 → ∀ k, k < 3 → i ≠ k → 2 * (Qf i * Qf k) ≤ 2 ^ 40 := by decide
theorem qf3 : ∀ i, i < 3 → ∀ k, k < 3 → ∀ q, q < 3 → (i ≠ k ∧ i ≠ q ∧ k ≠ q) → 6 * (Qf i * (Qf k * Qf q)) ≤ 2 ^ 54 := by decide
theorem qf_out {i : Nat} (h : 3 ≤ i) : Qf i = 0 := by
  match i, h with
  | n + 3, _ => rfl
theorem pf_out {i : Nat} (h : 4 ≤ i) : Pf i = 0 := by
  match i, h with
  | n + 4, _ => rfl
theorem pf2 : ∀ i, i < 4 → ∀ k, k < 4 → i ≠ k → 2 * (Pf i * Pf k) ≤ 2 ^ 40 := by decide
theorem pf3 : ∀ i, i < 4 → ∀ k, k < 4 → ∀ q, q < 4 → (i ≠ k ∧ i ≠ q ∧ k ≠ q) → 6 * (Pf i * (Pf k * Pf q)) ≤ 2 ^ 54 := by decide
theorem pf4 (i : Nat) (hi : i < 4) (k : Nat) (hk : k < 4) (q : Nat) (hq : q < 4) (t : Nat) (ht : t < 4) (h : i ≠ k ∧ i ≠ q ∧ i ≠ t ∧ k ≠ q ∧ k ≠ t ∧ q ≠ t) : 24 * (Pf i * (Pf k * (Pf q * Pf t))) ≤ 2 ^ 51 := by
  have ci : i = 0 ∨ i = 1 ∨ i = 2 ∨ i = 3 := by omega
  have ck : k = 0 ∨ k = 1 ∨ k = 2 ∨ k = 3 := by omega
  have cq : q = 0 ∨ q = 1 ∨ q = 2 ∨ q = 3 := by omega
  have ct : t = 0 ∨ t = 1 ∨ t = 2 ∨ t = 3 := by omega
  rcases ci with e | e | e | e <;> subst e <;> rcases ck with e | e | e | e <;> subst e <;> first | (exfalso; omega) | skip
  all_goals rcases cq with e | e | e | e <;> subst e <;> first | (exfalso; omega) | skip
  all_goals rcases ct with e | e | e | e <;> subst e <;> first | (exfalso; omega) | decide
/-- minors from bounds of the rows -/
theorem rb2 {M : TM.Mx} {Q : Nat → Nat} (h : ∀ i j, (M i j).natAbs ≤ Q i) (i k j l : Nat) : (TM.d2 M i k j l).natAbs ≤ 2 * (Q i * Q k) := by
  have h1 := TM.mul_bd (h i j) (h k l)
  have h2 := TM.mul_bd (h i l) (h k j)
  have h3 := Int.natAbs_sub_le (M i j * M k l) (M i l * M k j)
  unfold TM.d2
  omega
theorem rb3 {M : TM.Mx} {Q : Nat → Nat} (h : ∀ i j, (M i j).natAbs ≤ Q i) (i k q j l o : Nat) : (TM.d3 M i k q j l o).natAbs ≤ 6 * (Q i * (Q k * Q q)) := by
  have b := rb2 h
  have h1 := TM.mul_bd (h i j) (b k q l o)
  have h2 := TM.mul_bd (h i l) (b k q j o)
  have h3 := TM.mul_bd (h i o) (b k q j l)
  have h4 := Int.natAbs_sub_le (M i j * TM.d2 M k q l o) (M i l * TM.d2 M k q j o)
  have h5 := Int.natAbs_add_le (M i j * TM.d2 M k q l o - M i l * TM.d2 M k q j o) (M i o * TM.d2 M k q j l)
  have e : Q i * (2 * (Q k * Q q)) = 2 * (Q i * (Q k * Q q)) := by rw [Nat.mul_left_comm]
  rw [e] at h1 h2 h3
  unfold TM.d3
  omega
theorem cb2 {M : TM.Mx} {Q : Nat → Nat} (h : ∀ i j, (M i j).natAbs ≤ Q j) (i k j l : Nat) : (TM.d2 M i k j l).natAbs ≤ 2 * (Q j * Q l) := by
  have h1 := TM.mul_bd (h i j) (h k l)
  have h2 := TM.mul_bd (h i l) (h k j)
  rw [Nat.mul_comm] at h2
  have h3 := Int.natAbs_sub_le (M i j * M k l) (M i l * M k j)
  unfold TM.d2
  omega
theorem cb3 {M : TM.Mx} {Q : Nat → Nat} (h : ∀ i j, (M i j).natAbs ≤ Q j) (i k q j l o : Nat) : (TM.d3 M i k q j l o).natAbs ≤ 6 * (Q j * (Q l * Q o)) := by
  have b := cb2 h
  have h1 := TM.mul_bd (h i j) (b k q l o)
  have h2 := TM.mul_bd (h i l) (b k q j o)
  have h3 := TM.mul_bd (h i o) (b k q j l)
  have h4 := Int.natAbs_sub_le (M i j * TM.d2 M k q l o) (M i l * TM.d2 M k q j o)
  have h5 := Int.natAbs_add_le (M i j * TM.d2 M k q l o - M i l * TM.d2 M k q j o) (M i o * TM.d2 M k q j l)
  have e1 : Q j * (2 * (Q l * Q o)) = 2 * (Q j * (Q l * Q o)) := by rw [Nat.mul_left_comm]
  have e2 : Q l * (2 * (Q j * Q o)) = 2 * (Q j * (Q l * Q o)) := by rw [Nat.mul_left_comm, Nat.mul_left_comm (Q l)]
  have e3 : Q o * (2 * (Q j * Q l)) = 2 * (Q j * (Q l * Q o)) := by rw [Nat.mul_left_comm, Nat.mul_comm (Q o), Nat.mul_assoc]
  rw [e1] at h1
  rw [e2] at h2
  rw [e3] at h3
  unfold TM.d3
  omega
theorem cb4 {M : TM.Mx} {Q : Nat → Nat} (h : ∀ i j, (M i j).natAbs ≤ Q j) (i k q t j l o e : Nat) : (TM.d4 M i k q t j l o e).natAbs ≤ 24 * (Q j * (Q l * (Q o * Q e))) := by
  have b := cb3 h
  have h1 := TM.mul_bd (h i j) (b k q t l o e)
  have h2 := TM.mul_bd (h i l) (b k q t j o e)
  have h3 := TM.mul_bd (h i o) (b k q t j l e)
  have h4 := TM.mul_bd (h i e) (b k q t j l o)
  have e1 : Q j * (6 * (Q l * (Q o * Q e))) = 6 * (Q j * (Q l * (Q o * Q e))) := by rw [Nat.mul_left_comm]
  have e2 : Q l * (6 * (Q j * (Q o * Q e))) = 6 * (Q j * (Q l * (Q o * Q e))) := by grind
  have e3 : Q o * (6 * (Q j * (Q l * Q e))) = 6 * (Q j * (Q l * (Q o * Q e))) := by grind
  have e4 : Q e * (6 * (Q j * (Q l * Q o))) = 6 * (Q j * (Q l * (Q o * Q e))) := by grind
  rw [e1] at h1
  rw [e2] at h2
  rw [e3] at h3
  rw [e4] at h4
  unfold TM.d4
  generalize M i j * TM.d3 M k q t l o e = u1 at *
  generalize M i l * TM.d3 M k q t j o e = u2 at *
  generalize M i o * TM.d3 M k q t j l e = u3 at *
  generalize M i e * TM.d3 M k q t j l o = u4 at *
  clear e1 e2 e3 e4 b
  omega
theorem g0_of {n : Nat} {L : List Fn} {B : List Row} (hB : HN n B) (h : Sm2 4 L B) (hn : n ≤ 4) (hl : B.length ≤ n) (h0 : 0 < B.length) : TM.G0 0 (ent B) := by
  have sm : ∃ i j, ent B i j ≠ 0 ∧ (ent B i j).natAbs + 0 ≤ 4 := by
    match B, hB, h, h0 with
    | b :: C, hB, h, _ =>
      have p := f4 hB h
      have q := (hB.row b (by simp)).2.2
      refine ⟨0, pv b, ?_, ?_⟩
      · show b.getD (pv b) 0 ≠ 0; omega
      · show (b.getD (pv b) 0).natAbs + 0 ≤ 4; omega
  by_cases h3 : B.length ≤ 3
  · have hQ := rows3 hB h h3
    refine ⟨by decide, sm, fun i k j l => ?_, fun i k q j l o => ?_, fun i k q t j l o e => ?_, fun i j => ?_⟩
    · by_cases hik : i = k
      · subst hik
        have : TM.d2 (ent B) i i j l = 0 := by simp only [TM.d2]; grind
        rw [this]; simp
      · refine Nat.le_trans (rb2 hQ i k j l) ?_
        by_cases g1 : 3 ≤ i
        · rw [qf_out g1]; simp
        by_cases g2 : 3 ≤ k
        · rw [qf_out g2]; simp
        exact qf2 i (by omega) k (by omega) hik
    · by_cases hik : i = k
      · subst hik
        have : TM.d3 (ent B) i i q j l o = 0 := by simp only [TM.d3, TM.d2]; grind
        rw [this]; simp
      by_cases hiq : i = q
      · subst hiq
        have : TM.d3 (ent B) i k i j l o = 0 := by simp only [TM.d3, TM.d2]; grind
        rw [this]; simp
      by_cases hkq : k = q
      · subst hkq
        have : TM.d3 (ent B) i k k j l o = 0 := by simp only [TM.d3, TM.d2]; grind
        rw [this]; simp
      refine Nat.le_trans (rb3 hQ i k q j l o) ?_
      by_cases g1 : 3 ≤ i
      · rw [qf_out g1]; simp
      by_cases g2 : 3 ≤ k
      · rw [qf_out g2]; simp
      by_cases g3 : 3 ≤ q
      · rw [qf_out g3]; simp
      exact qf3 i (by omega) k (by omega) q (by omega) ⟨hik, hiq, hkq⟩
    · rw [d4_zero fun i j hi => ent_out (by omega)]; simp
    · have : Qf i ≤ 278660 := by
        match i with
        | 0 => decide
        | 1 => decide
        | 2 => decide
        | _ + 3 => exact Nat.zero_le _
      exact Nat.lt_of_le_of_lt (Nat.le_trans (hQ i j) this) (by decide)
  · have hn4 : n = 4 := by omega
    subst hn4
    have hP := cols4 hB h (by omega)
    refine ⟨by decide, sm, fun i k j l => ?_, fun i k q j l o => ?_, fun i k q t j l o e => ?_, fun i j => ?_⟩
    · by_cases hjl : j = l
      · subst hjl
        have : TM.d2 (ent B) i k j j = 0 := by simp only [TM.d2]; grind
        rw [this]; simp
      · refine Nat.le_trans (cb2 hP i k j l) ?_
        by_cases g1 : 4 ≤ j
        · rw [pf_out g1]; simp
        by_cases g2 : 4 ≤ l
        · rw [pf_out g2]; simp
        exact pf2 j (by omega) l (by omega) hjl
    · by_cases h1 : j = l
      · subst h1
        have : TM.d3 (ent B) i k q j j o = 0 := by simp only [TM.d3, TM.d2]; grind
        rw [this]; simp
      by_cases h2 : j = o
      · subst h2
        have : TM.d3 (ent B) i k q j l j = 0 := by simp only [TM.d3, TM.d2]; grind
        rw [this]; simp
      by_cases h3 : l = o
      · subst h3
        have : TM.d3 (ent B) i k q j l l = 0 := by simp only [TM.d3, TM.d2]; grind
        rw [this]; simp
      refine Nat.le_trans (cb3 hP i k q j l o) ?_
      by_cases g1 : 4 ≤ j
      · rw [pf_out g1]; simp
      by_cases g2 : 4 ≤ l
      · rw [pf_out g2]; simp
      by_cases g3 : 4 ≤ o
      · rw [pf_out g3]; simp
      exact pf3 j (by omega) l (by omega) o (by omega) ⟨h1, h2, h3⟩
    · by_cases hd : j = l ∨ j = o ∨ j = e ∨ l = o ∨ l = e ∨ o = e
      · have : TM.d4 (ent B) i k q t j l o e = 0 := by
          rcases hd with g | g | g | g | g | g <;> subst g <;> simp only [TM.d4, TM.d3, TM.d2] <;> grind
        rw [this]; simp
      · refine Nat.le_trans (cb4 hP i k q t j l o e) ?_
        by_cases g1 : 4 ≤ j
        · rw [pf_out g1]; simp
        by_cases g2 : 4 ≤ l
        · rw [pf_out g2]; simp
        by_cases g3 : 4 ≤ o
        · rw [pf_out g3]; simp
        by_cases g4 : 4 ≤ e
        · rw [pf_out g4]; simp
        exact pf4 j (by omega) l (by omega) o (by omega) e (by omega) (by omega)
    · have : Pf j ≤ 2 ^ 23 := by
        match j with
        | 0 => decide
        | 1 => decide
        | 2 => decide
        | 3 => decide
        | _ + 4 => exact Nat.zero_le _
      exact Nat.lt_of_le_of_lt (Nat.le_trans (hP i j) this) (by decide)
end K86
namespace K86
open PySem L2 WL
theorem sp_spF {L : List Row} {w : Fn} (h : Sp L w) : SpF (L.map V) w := by
  induction h with
  | zero => exact .zero
  | add c hr _ ih => exact SpF.add c (List.mem_map.mpr ⟨_, hr, rfl⟩) ih
theorem turn_math (n : Nat) (rows : List Row) (h0 : 0 < n) (h4 : n ≤ 4) (hr0 : 0 < rows.length) (hr6 : rows.length ≤ 6) (hrow : ∀ r ∈ rows, r.length = n ∧ ∀ x ∈ r, x.natAbs ≤ 4) (hnz : ∃ r ∈ rows, ∃ x ∈ r, x ≠ 0) : ∃ B, TurnM n rows B := by
  have hrow' : ∀ r ∈ rows, r.length = n ∧ ∀ x ∈ r, x.natAbs < 2 ^ 42 := fun r hr => ⟨(hrow r hr).1, fun x hx => Nat.lt_of_le_of_lt ((hrow r hr).2 x hx) (by decide)⟩
  have ei : EchInv n (JI n 42 rows) := ech_inv (fun p hp => bbs_ok (by decide) (by omega)) (fun p hp => by have := bbs_ok (s := 42) (by decide) (show p < 5 by omega); have := ffs_ok (s := 42) (by decide) (show p ≤ 5 by omega); omega)
  have j0 : JI n 42 rows 0 [] rows := ji_start hrow' (by omega)
  obtain ⟨B, rows', hJ⟩ := ech_exists ei j0 n (Nat.le_refl _)
  have spB' : SpEq B rows := ji_end hJ
  have uniq : ∀ {found : List Row}, HN n found → SpEq found rows → found = B := fun h1 h2 => HN.unique h1 hJ.hn (h2.trans spB'.symm)
  have hfB : ∀ b ∈ B, FR n n 20000 b := fun b hb => ⟨(hJ.fr b hb).pvl, (hJ.fr b hb).piv, fun x hx => Nat.lt_of_lt_of_le ((hJ.fr b hb).bd x hx) (pow_mono (ffs_ok (by decide) (by omega)))⟩
  have hlB : B.length ≤ n := hJ.l1
  have pos : 0 < B.length := by
    cases B with
    | cons b C => simp
    | nil =>
      obtain ⟨r, hr, x, hx, hx0⟩ := hnz
      obtain ⟨i, _, e⟩ := mem_getD hx
      have := (spB'.symm.sp hr).nil i
      simp only [V] at this
      exact absurd (e.symm.trans this) hx0
  have sm : Sm2 4 (rows.map V) B := ⟨fun b hb => ⟨1, by decide, (sp_spF (spB'.sp hb)).of fun i => by simp⟩, fun x hx => by
    obtain ⟨r, hr, rfl⟩ := List.mem_map.mp hx
    exact spB'.symm.sp hr, fun x hx i => by
    obtain ⟨r, hr, rfl⟩ := List.mem_map.mp hx
    exact getD_bd (hrow r hr).2 i⟩
  have g0 := g0_of hJ.hn sm h4 hlB pos
  refine ⟨B, ⟨⟨Hs n 42 rows, Gs n 42 rows, Es n 42 rows, Fs n 20000 rows, lb_inv (B := B) (by omega) hr6 hB1 hB2 hrow', hs_start, fun held ks found h => ?_⟩, ⟨JI n 42 rows, ei, j0, fun found rows' h => uniq h.hn (ji_end h)⟩, pos, hlB, fun r hr => (hJ.hn.row r hr).1, fun r hrl hrb => ?_, fun ns hns hnb => ?_, ?_⟩⟩
  · obtain ⟨f1, f2⟩ := fs_end h
    exact uniq f1 f2
  · exact spOk_of (a := 200) (f := 20000) hJ.hn hfB hrl hrb (by decide) (by
      have : (B.length + 1) * (20000 + 2) ≤ 6 * (20000 + 2) := Nat.mul_le_mul_right _ (by omega)
      omega)
  · intro x hx
    obtain ⟨i, _, rfl⟩ := mem_getD hx
    rw [sumL_at (fun r hr => (hJ.hn.row r hr).1)]
    have hb : ∀ r ∈ B, ∀ x ∈ r, x.natAbs ≤ 2 ^ 64 := fun r hr x hx => by
      obtain ⟨k, hk, rfl⟩ := List.getElem_of_mem hr
      obtain ⟨j, _, rfl⟩ := mem_getD hx
      have := g0.be k j
      unfold ent at this
      rw [show B.getD k [] = B[k] by simp [hk]] at this
      exact Nat.le_of_lt this
    have := sumV_bd hnb hb i B.length
    have g := Nat.mul_le_mul_right (10 ^ 9 * 2 ^ 64) (show B.length ≤ 4 by omega)
    have : (4 : Nat) * (10 ^ 9 * 2 ^ 64) < 2 ^ 200 := by decide
    omega
  · exact ⟨GG n B.length B, TM.c1 + 4, gg_inv (by omega) h4, gg_start (by omega) h4 hJ.hn g0, fun A' U' q' g => g.check hJ.hn⟩
end K86
/-! ### the end -/
namespace K86
open PySem PySem.Spec L2 WL
/-- what is known of the head -/
structure Head (K : PySem.W.Frag) (mg : Str → Option Value) (c : Addr) (Ct : Addr) (fL : Addr) (fdL : FuncData) : Prop where
  Z : Zs mg
  cl : ClsW K Ct ["rows", "many", "width", "unit"]
  dpivot_of : DefW K mg "pivot_of" s_pivot_of ["row"]
  dless : DefW K mg "less" s_less ["row", "factor", "other"]
  ddivided_down : DefWC K mg "divided_down" s_divided_down ["rows", "place"] c
  dechelon : DefW K mg "echelon" s_echelon ["rows", "width"]
  dbasis_of : DefW K mg "basis_of" s_basis_of ["rows"]
  dis_spanned : DefW K mg "is_spanned" s_is_spanned ["basis", "row"]
  dkeeps : DefW K mg "keeps" s_keeps ["check", "row"]
  dTurner___init__ : DefI K mg Ct "Turner" "Turner.__init__" s_Turner___init__ ["self", "basis"]
  dTurner_tables : DefM K Ct "tables" "Turner.tables" s_Turner_tables ["self"]
  dTurner_least_place : DefM K Ct "least_place" "Turner.least_place" s_Turner_least_place ["self", "at"]
  dTurner_bring : DefM K Ct "bring" "Turner.bring" s_Turner_bring ["self", "at", "row", "column"]
  dTurner_clear : DefM K Ct "clear" "Turner.clear" s_Turner_clear ["self", "at"]
  dTurner_turn : DefM K Ct "turn" "Turner.turn" s_Turner_turn ["self"]
  dTurner_checks : DefM K Ct "checks" "Turner.checks" s_Turner_checks ["self"]
  dchecks_of : DefW K mg "checks_of" s_checks_of ["basis"]
  d_law_pot : DefW K mg "_law_pot" s__law_pot ["script", "shares"]
  d_law_draw : DefW K mg "_law_draw" s__law_draw ["pot", "many"]
  d_law_less : DefW K mg "_law_less" s__law_less ["one", "own", "k"]
  d_law_basis : DefW K mg "_law_basis" s__law_basis ["rows"]
  d_law_is_whole : DefW K mg "_law_is_whole" s__law_is_whole ["value"]
  d_law_is_check : DefW K mg "_law_is_check" s__law_is_check ["value", "width"]
  d_law_box : DefW K mg "_law_box" s__law_box ["width"]
  d_law_sum : DefW K mg "_law_sum" s__law_sum ["numbers", "rows", "width"]
  d_law_spans : DefW K mg "_law_spans" s__law_spans ["basis", "row"]
  d_law_keeps : DefW K mg "_law_keeps" s__law_keeps ["check", "row"]
  d_law_same : DefW K mg "_law_same" s__law_same ["got", "due"]
  dlaw : Fun K "law" "law" s_law fL fdL
theorem law_ok {P : Program} {w : World} {K : PySem.W.Frag} {mg : Str → Option Value} {base : Heap} {c Pt Ct fL : Addr} {fdL : FuncData} (h : Head K mg c Ct fL fdL) (TB : LamX.TabB base mg c Pt) :
    FnOk P w K mg base CX0 5 fL fdL ["script"] (spOf K [(Pt, "divided_down.<locals>.<lambda>")] (fsTrue 63)) := by
  have Cl := h.cl.cl
  have A_rows : NoAttr K Ct "rows" := h.cl.na _ (by decide)
  have A_many : NoAttr K Ct "many" := h.cl.na _ (by decide)
  have A_width : NoAttr K Ct "width" := h.cl.na _ (by decide)
  have A_unit : NoAttr K Ct "unit" := h.cl.na _ (by decide)
  have less := c_less (P := P) (w := w) (base := base) (T := [(Pt, "divided_down.<locals>.<lambda>")]) h.Z h.dless
  have lessC := c_lessC (P := P) (w := w) (base := base) (T := [(Pt, "divided_down.<locals>.<lambda>")]) h.Z h.dless
  have pivot := c_pivot_of (P := P) (w := w) (base := base) (T := [(Pt, "divided_down.<locals>.<lambda>")]) h.Z h.dpivot_of
  have lawless := c__law_less (P := P) (w := w) (base := base) (T := [(Pt, "divided_down.<locals>.<lambda>")]) h.Z h.d_law_less
  have sum := c__law_sum (P := P) (w := w) (base := base) (T := [(Pt, "divided_down.<locals>.<lambda>")]) h.Z h.d_law_sum
  have spanned := c_is_spanned h.Z h.dis_spanned less pivot
  have spans := c__law_spans h.Z h.d_law_spans lawless
  have dd := c_divided_down h.Z h.ddivided_down less TB (List.mem_singleton.mpr rfl) (fun p hp _ => by rw [List.mem_singleton.mp hp])
  have ech := c_echelon h.Z h.dechelon less dd
  have basis := c_basis_of h.Z h.dbasis_of ech
  have lb := c__law_basis h.Z h.d_law_basis lawless
  have pot := c__law_pot (P := P) (w := w) (base := base) (T := [(Pt, "divided_down.<locals>.<lambda>")]) h.Z h.d_law_pot
  have draw := c__law_draw (P := P) (w := w) (base := base) (T := [(Pt, "divided_down.<locals>.<lambda>")]) h.Z h.d_law_draw
  have keeps := c_keeps (P := P) (w := w) (base := base) (T := [(Pt, "divided_down.<locals>.<lambda>")]) h.Z h.dkeeps
  have lkeeps := c__law_keeps (P := P) (w := w) (base := base) (T := [(Pt, "divided_down.<locals>.<lambda>")]) h.Z h.d_law_keeps
  have whole := c__law_is_whole (P := P) (w := w) (base := base) (T := [(Pt, "divided_down.<locals>.<lambda>")]) h.Z h.d_law_is_whole
  have box := c__law_box (P := P) (w := w) (base := base) (T := [(Pt, "divided_down.<locals>.<lambda>")]) h.Z h.d_law_box
  have ischeck := c__law_is_check h.Z h.d_law_is_check whole
  have same := c_same (P := P) (w := w) (base := base) (T := [(Pt, "divided_down.<locals>.<lambda>")]) h.Z h.d_law_same 0
  have tables := cm_tables (P := P) (w := w) (base := base) (T := [(Pt, "divided_down.<locals>.<lambda>")]) h.Z h.dTurner_tables Cl A_rows A_unit
  have least := cm_least (P := P) (w := w) (base := base) (T := [(Pt, "divided_down.<locals>.<lambda>")]) h.Z h.dTurner_least_place Cl A_rows A_many A_width
  have bring := cm_bring h.Z h.dTurner_bring Cl A_rows tables
  have clear := cm_clear h.Z h.dTurner_clear Cl A_rows A_many A_width tables lessC
  have turn := cm_turn h.Z h.dTurner_turn Cl A_many least bring clear
  have init := ci_Turner (P := P) (w := w) (base := base) (T := [(Pt, "divided_down.<locals>.<lambda>")]) h.Z h.dTurner___init__ Cl A_rows A_many A_width A_unit
  have checks := cm_checks (P := P) (w := w) (base := base) (T := [(Pt, "divided_down.<locals>.<lambda>")]) h.Z h.dTurner_checks Cl A_rows A_many A_width A_unit
  have cof := c_checks_of h.Z h.dchecks_of Cl init turn checks
  refine (c_law h.Z h.dlaw turn_math pot draw lb basis cof ischeck box same sum spanned spans keeps lkeeps).imp fun vs H Q E q => ?_
  obtain ⟨ω, ρ, ds, μ, k, r, rd, ⟨s, e1, e2, e3, e4⟩, q⟩ := q
  exact ⟨ω, ρ, ds, μ, k, r, rd, ⟨s, e1, e2, by omega, e4⟩, q⟩
end K86
open PySem PySem.W PyProof.Rows
theorem PySem.Challenge.cw_everyfolk_k86_checks_just_the_spanned_ro_holds : PySem.Challenge.rw_everyfolk_k86_checks_just_the_spanned_ro.Holds := by
  w_on; o_law; k_head; (case hw => w_witness2)
  k_fill
  refine WL.law_end (l := PySem.Challenge.rw_everyfolk_k86_checks_just_the_spanned_ro) (n := 63) (k := 5) [(28, "divided_down.<locals>.<lambda>")] [(30, 28)] (by decide) rfl (by decide) rfl ⟨rfl, by decide, by decide⟩ (fun w h Y => PySem.W.km_in_of Y) ?F
  case F =>
    intro w mg fa h Y KX G hmg
    have hT := PySem.W.km_tabs_of Y
    refine ⟨fun p hp => ?_, fun p hp => ?_, fun p hp => ?_, ?_⟩
    · rw [List.mem_singleton.mp hp]; exact hT _ (List.mem_singleton.mpr rfl)
    · rw [List.mem_singleton.mp hp]; kernel_rfl
    · rw [List.mem_singleton.mp hp]; exact PySem.W.codeHd_of_K KX (by kernel_rfl)
    have z_len : mg "len" = none := by refine PySem.W.mg_none_of KX G ?_; k_is
    have z_zip : mg "zip" = none := by refine PySem.W.mg_none_of KX G ?_; k_is
    have z_range : mg "range" = none := by refine PySem.W.mg_none_of KX G ?_; k_is
    have z_enumerate : mg "enumerate" = none := by refine PySem.W.mg_none_of KX G ?_; k_is
    have z_sorted : mg "sorted" = none := by refine PySem.W.mg_none_of KX G ?_; k_is
    have z_abs : mg "abs" = none := by refine PySem.W.mg_none_of KX G ?_; k_is
    have z_sum : mg "sum" = none := by refine PySem.W.mg_none_of KX G ?_; k_is
    have z_all : mg "all" = none := by refine PySem.W.mg_none_of KX G ?_; k_is
    have z_list : mg "list" = none := by refine PySem.W.mg_none_of KX G ?_; k_is
    have z_tuple : mg "tuple" = none := by refine PySem.W.mg_none_of KX G ?_; k_is
    have z_int : mg "int" = none := by refine PySem.W.mg_none_of KX G ?_; k_is
    have z_isinstance : mg "isinstance" = none := by refine PySem.W.mg_none_of KX G ?_; k_is
    have z_bool : mg "bool" = none := by refine PySem.W.mg_none_of KX G ?_; k_is
    have z_str : mg "str" = none := by refine PySem.W.mg_none_of KX G ?_; k_is
    have z_min : mg "min" = none := by refine PySem.W.mg_none_of KX G ?_; k_is
    have D_pivot_of := by
      refine' WL.def_mk (x := "pivot_of") (st := K86.s_pivot_of) (ps := ["row"]) KX G ?a ?l ?c ?k (fun _ _ _ _ _ _ us hl => match us, hl with | [_], _ => rfl)
      (case a => k_is); (case l => k_is); (case c => k_is); (case k => k_is)
    have D_less := by
      refine' WL.def_mk (x := "less") (st := K86.s_less) (ps := ["row", "factor", "other"]) KX G ?a ?l ?c ?k (fun _ _ _ _ _ _ us hl => match us, hl with | [_, _, _], _ => rfl)
      (case a => k_is); (case l => k_is); (case c => k_is); (case k => k_is)
    have D_divided_down := by
      refine' WL.defc_mk (c := 30) (x := "divided_down") (st := K86.s_divided_down) (ps := ["rows", "place"]) KX G ?a ?l ?c ?k (fun _ _ _ _ _ _ us hl => match us, hl with | [_, _], _ => rfl)
      (case a => k_is); (case l => k_is); (case c => k_is); (case k => k_is)
    have D_echelon := by
      refine' WL.def_mk (x := "echelon") (st := K86.s_echelon) (ps := ["rows", "width"]) KX G ?a ?l ?c ?k (fun _ _ _ _ _ _ us hl => match us, hl with | [_, _], _ => rfl)
      (case a => k_is); (case l => k_is); (case c => k_is); (case k => k_is)
    have D_basis_of := by
      refine' WL.def_mk (x := "basis_of") (st := K86.s_basis_of) (ps := ["rows"]) KX G ?a ?l ?c ?k (fun _ _ _ _ _ _ us hl => match us, hl with | [_], _ => rfl)
      (case a => k_is); (case l => k_is); (case c => k_is); (case k => k_is)
    have D_is_spanned := by
      refine' WL.def_mk (x := "is_spanned") (st := K86.s_is_spanned) (ps := ["basis", "row"]) KX G ?a ?l ?c ?k (fun _ _ _ _ _ _ us hl => match us, hl with | [_, _], _ => rfl)
      (case a => k_is); (case l => k_is); (case c => k_is); (case k => k_is)
    have D_keeps := by
      refine' WL.def_mk (x := "keeps") (st := K86.s_keeps) (ps := ["check", "row"]) KX G ?a ?l ?c ?k (fun _ _ _ _ _ _ us hl => match us, hl with | [_, _], _ => rfl)
      (case a => k_is); (case l => k_is); (case c => k_is); (case k => k_is)
    have D_Turner___init__ := by
      refine' WL.defi_mk (C := 104) (x := "Turner") (qual := "Turner.__init__") (st := K86.s_Turner___init__) (ps := ["self", "basis"]) KX G ?g ?mk ?kc ?a ?i ?l ?c ?k (fun _ _ _ _ _ _ us hl => match us, hl with | [_, _], _ => rfl)
      (case g => k_is); (case mk => k_is); (case kc => k_is); (case a => k_is); (case i => k_is); (case l => k_is); (case c => k_is); (case k => k_is)
    have D_Turner_tables := by
      refine' WL.defm_mk (C := 104) (m := "tables") (qual := "Turner.tables") (st := K86.s_Turner_tables) (ps := ["self"]) KX ?a ?i ?l ?c ?k (fun _ _ _ _ _ _ us hl => match us, hl with | [_], _ => rfl)
      (case a => k_is); (case i => k_is); (case l => k_is); (case c => k_is); (case k => k_is)
    have D_Turner_least_place := by
      refine' WL.defm_mk (C := 104) (m := "least_place") (qual := "Turner.least_place") (st := K86.s_Turner_least_place) (ps := ["self", "at"]) KX ?a ?i ?l ?c ?k (fun _ _ _ _ _ _ us hl => match us, hl with | [_, _], _ => rfl)
      (case a => k_is); (case i => k_is); (case l => k_is); (case c => k_is); (case k => k_is)
    have D_Turner_bring := by
      refine' WL.defm_mk (C := 104) (m := "bring") (qual := "Turner.bring") (st := K86.s_Turner_bring) (ps := ["self", "at", "row", "column"]) KX ?a ?i ?l ?c ?k (fun _ _ _ _ _ _ us hl => match us, hl with | [_, _, _, _], _ => rfl)
      (case a => k_is); (case i => k_is); (case l => k_is); (case c => k_is); (case k => k_is)
    have D_Turner_clear := by
      refine' WL.defm_mk (C := 104) (m := "clear") (qual := "Turner.clear") (st := K86.s_Turner_clear) (ps := ["self", "at"]) KX ?a ?i ?l ?c ?k (fun _ _ _ _ _ _ us hl => match us, hl with | [_, _], _ => rfl)
      (case a => k_is); (case i => k_is); (case l => k_is); (case c => k_is); (case k => k_is)
    have D_Turner_turn := by
      refine' WL.defm_mk (C := 104) (m := "turn") (qual := "Turner.turn") (st := K86.s_Turner_turn) (ps := ["self"]) KX ?a ?i ?l ?c ?k (fun _ _ _ _ _ _ us hl => match us, hl with | [_], _ => rfl)
      (case a => k_is); (case i => k_is); (case l => k_is); (case c => k_is); (case k => k_is)
    have D_Turner_checks := by
      refine' WL.defm_mk (C := 104) (m := "checks") (qual := "Turner.checks") (st := K86.s_Turner_checks) (ps := ["self"]) KX ?a ?i ?l ?c ?k (fun _ _ _ _ _ _ us hl => match us, hl with | [_], _ => rfl)
      (case a => k_is); (case i => k_is); (case l => k_is); (case c => k_is); (case k => k_is)
    have D_checks_of := by
      refine' WL.def_mk (x := "checks_of") (st := K86.s_checks_of) (ps := ["basis"]) KX G ?a ?l ?c ?k (fun _ _ _ _ _ _ us hl => match us, hl with | [_], _ => rfl)
      (case a => k_is); (case l => k_is); (case c => k_is); (case k => k_is)
    have D__law_pot := by
      refine' WL.def_mk (x := "_law_pot") (st := K86.s__law_pot) (ps := ["script", "shares"]) KX G ?a ?l ?c ?k (fun _ _ _ _ _ _ us hl => match us, hl with | [_, _], _ => rfl)
      (case a => k_is); (case l => k_is); (case c => k_is); (case k => k_is)
    have D__law_draw := by
      refine' WL.def_mk (x := "_law_draw") (st := K86.s__law_draw) (ps := ["pot", "many"]) KX G ?a ?l ?c ?k (fun _ _ _ _ _ _ us hl => match us, hl with | [_, _], _ => rfl)
      (case a => k_is); (case l => k_is); (case c => k_is); (case k => k_is)
    have D__law_less := by
      refine' WL.def_mk (x := "_law_less") (st := K86.s__law_less) (ps := ["one", "own", "k"]) KX G ?a ?l ?c ?k (fun _ _ _ _ _ _ us hl => match us, hl with | [_, _, _], _ => rfl)
      (case a => k_is); (case l => k_is); (case c => k_is); (case k => k_is)
    have D__law_basis := by
      refine' WL.def_mk (x := "_law_basis") (st := K86.s__law_basis) (ps := ["rows"]) KX G ?a ?l ?c ?k (fun _ _ _ _ _ _ us hl => match us, hl with | [_], _ => rfl)
      (case a => k_is); (case l => k_is); (case c => k_is); (case k => k_is)
    have D__law_is_whole := by
      refine' WL.def_mk (x := "_law_is_whole") (st := K86.s__law_is_whole) (ps := ["value"]) KX G ?a ?l ?c ?k (fun _ _ _ _ _ _ us hl => match us, hl with | [_], _ => rfl)
      (case a => k_is); (case l => k_is); (case c => k_is); (case k => k_is)
    have D__law_is_check := by
      refine' WL.def_mk (x := "_law_is_check") (st := K86.s__law_is_check) (ps := ["value", "width"]) KX G ?a ?l ?c ?k (fun _ _ _ _ _ _ us hl => match us, hl with | [_, _], _ => rfl)
      (case a => k_is); (case l => k_is); (case c => k_is); (case k => k_is)
    have D__law_box := by
      refine' WL.def_mk (x := "_law_box") (st := K86.s__law_box) (ps := ["width"]) KX G ?a ?l ?c ?k (fun _ _ _ _ _ _ us hl => match us, hl with | [_], _ => rfl)
      (case a => k_is); (case l => k_is); (case c => k_is); (case k => k_is)
    have D__law_sum := by
      refine' WL.def_mk (x := "_law_sum") (st := K86.s__law_sum) (ps := ["numbers", "rows", "width"]) KX G ?a ?l ?c ?k (fun _ _ _ _ _ _ us hl => match us, hl with | [_, _, _], _ => rfl)
      (case a => k_is); (case l => k_is); (case c => k_is); (case k => k_is)
    have D__law_spans := by
      refine' WL.def_mk (x := "_law_spans") (st := K86.s__law_spans) (ps := ["basis", "row"]) KX G ?a ?l ?c ?k (fun _ _ _ _ _ _ us hl => match us, hl with | [_, _], _ => rfl)
      (case a => k_is); (case l => k_is); (case c => k_is); (case k => k_is)
    have D__law_keeps := by
      refine' WL.def_mk (x := "_law_keeps") (st := K86.s__law_keeps) (ps := ["check", "row"]) KX G ?a ?l ?c ?k (fun _ _ _ _ _ _ us hl => match us, hl with | [_, _], _ => rfl)
      (case a => k_is); (case l => k_is); (case c => k_is); (case k => k_is)
    have D__law_same := by
      refine' WL.def_mk (x := "_law_same") (st := K86.s__law_same) (ps := ["got", "due"]) KX G ?a ?l ?c ?k (fun _ _ _ _ _ _ us hl => match us, hl with | [_, _], _ => rfl)
      (case a => k_is); (case l => k_is); (case c => k_is); (case k => k_is)
    have D_cl := by
      refine' WL.clsw_mk (C := 104) (fs := ["rows", "many", "width", "unit"]) KX ?pg ?hd ?po ?sa ?na
      (case pg => k_is); (case hd => k_is); (case po => k_is); (case sa => k_is)
      (case na => intro f hf; simp only [List.mem_cons, List.not_mem_nil, or_false] at hf; rcases hf with rfl | rfl | rfl | rfl <;> (unfold L2.NoAttr; k_is))
    obtain ⟨fd, hb, FL⟩ : ∃ fd : FuncData, (∀ (s : Shared) (u : Value), BindsTo s fd ⟨[u], []⟩ [("script", u)]) ∧ L2.Fun (_) "law" "law" K86.s_law fa fd := by
      refine' WL.law_mk (st := K86.s_law) KX G hmg ?a ?l ?c ?k (fun _ _ _ _ _ _ us hl => match us, hl with | [_], _ => rfl)
      (case a => k_is); (case l => k_is); (case c => k_is); (case k => k_is)
    refine ⟨fd, hb, fun base _ _ hTB => ?_⟩
    exact K86.law_ok ⟨⟨z_len, z_zip, z_range, z_enumerate, z_sorted, z_abs, z_sum, z_all, z_list, z_tuple, z_int, z_isinstance, z_bool, z_str, z_min⟩, D_cl, D_pivot_of, D_less, D_divided_down, D_echelon, D_basis_of, D_is_spanned, D_keeps, D_Turner___init__, D_Turner_tables, D_Turner_least_place, D_Turner_bring, D_Turner_clear, D_Turner_turn, D_Turner_checks, D_checks_of, D__law_pot, D__law_draw, D__law_less, D__law_basis, D__law_is_whole, D__law_is_check, D__law_box, D__law_sum, D__law_spans, D__law_keeps, D__law_same, FL⟩ (hTB _ (List.mem_singleton.mpr rfl))
#print axioms PySem.Challenge.cw_everyfolk_k86_checks_just_the_spanned_ro_holds
