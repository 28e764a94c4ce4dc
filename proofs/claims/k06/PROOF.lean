import PyProof.Rows.All
import Wide.All
import OpenK.AllK
import Wide.FinOn
import HandS.ForMost
import HandS.IsInst
import HandS.DictComp
import HandS.TupAny
import HandS.Deep
import HandS.Style
import HandS.Flow
import HandS.Walk
import KE.GoesEnum
import KE.GoesMore
import KE.GoesZip
import HandS.Conv
import PyProof.ReprBulk
import PyProof.Rows.StrJoinMade
import PySem.Challenge.RW_laidout_k06_between_least_and_greatest
set_option Elab.async false
set_option linter.all false
set_option maxRecDepth 100000
set_option maxHeartbeats 4000000
/-! An abstract store over the hand layer: values as data, local objects as owned, the stream as a fixed object. -/
namespace Z
open PySem PySem.Spec PyProof.Rows L2

/-! ### heaps that grow -/
theorem same_upd {H : Hp} {p : Addr} {o : HO} (h : H p = none) : Same H (upd H p o) := fun b x e => by
  rw [upd_ne (ne_of_none e h)]
  exact e
theorem same_t {K : PySem.W.Frag} {H H' : Hp} {a : Addr} {xs : List V} (e : Same H H') (h : SqT K H a xs) : SqT K H' a xs := by
  rcases h with (h | ⟨o, h⟩) | h
  · exact .inl (.inl (e _ _ h))
  · exact .inl (.inr ⟨o, e _ _ h⟩)
  · exact .inr h

/-! ### values as data -/
mutual
inductive Rp (K : PySem.W.Frag) (H : Hp) : V → PyData → Prop
  | non : Rp K H .non .none
  | bl (b : Bool) : Rp K H (.bl b) (.bool b)
  | int (i : Int) : Rp K H (.int i) (.int i)
  | str (x : Str) : Rp K H (.str x) (.str x)
  | lst {a : Addr} {xs : List V} {ds : List PyData} : H a = some (.lst xs) → RpA K H xs ds → Rp K H (.ref a) (.list ds)
  | tup {a : Addr} {xs : List V} {ds : List PyData} : H a = some (.tup xs) → RpA K H xs ds → Rp K H (.ref a) (.tuple ds)
inductive RpA (K : PySem.W.Frag) (H : Hp) : List V → List PyData → Prop
  | nil : RpA K H [] []
  | cons {v : V} {vs : List V} {d : PyData} {ds : List PyData} : Rp K H v d → RpA K H vs ds → RpA K H (v :: vs) (d :: ds)
end
section
variable {K : PySem.W.Frag} {H H' : Hp}
mutual
theorem Rp.mono (e : Same H H') : ∀ (d : PyData) (v : V), Rp K H v d → Rp K H' v d
  | .none, _, .non => .non
  | .bool b, _, .bl _ => .bl b
  | .int i, _, .int _ => .int i
  | .str x, _, .str _ => .str x
  | .list ds, _, .lst h1 h2 => .lst (e _ _ h1) (RpA.mono e ds _ h2)
  | .tuple ds, _, .tup h1 h2 => .tup (e _ _ h1) (RpA.mono e ds _ h2)
  | .dict _, _, h => nomatch h
theorem RpA.mono (e : Same H H') : ∀ (ds : List PyData) (vs : List V), RpA K H vs ds → RpA K H' vs ds
  | [], _, .nil => .nil
  | d :: ds, _, .cons h t => .cons (Rp.mono e d _ h) (RpA.mono e ds _ t)
end
mutual
theorem Rp.dp : ∀ (d : PyData) (v : V), Rp K H v d → Dp K H v d
  | .none, _, .non => .non
  | .bool b, _, .bl _ => .bl b
  | .int i, _, .int _ => .int i
  | .str x, _, .str _ => .str x
  | .list ds, _, .lst h1 h2 => .lst (SqL.of h1) (RpA.dp ds _ h2)
  | .tuple ds, _, .tup h1 h2 => .tup (SqT.of h1) (RpA.dp ds _ h2)
  | .dict _, _, h => nomatch h
theorem RpA.dp : ∀ (ds : List PyData) (vs : List V), RpA K H vs ds → DpAll K H vs ds
  | [], _, .nil => .nil
  | d :: ds, _, .cons h t => .cons (Rp.dp d _ h) (RpA.dp ds _ t)
end
theorem RpA.length : ∀ {vs : List V} {ds : List PyData}, RpA K H vs ds → vs.length = ds.length
  | _, _, .nil => rfl
  | _, _, .cons _ t => congrArg (· + 1) t.length
theorem RpA.get : ∀ {vs : List V} {ds : List PyData} {i : Nat} {v : V}, RpA K H vs ds → vs[i]? = some v → ∃ d, ds[i]? = some d ∧ Rp K H v d
  | _, _, i, _, .nil, e => by simp at e
  | _, _, 0, _, .cons h _, e => ⟨_, rfl, by simp at e; subst e; exact h⟩
  | _, _, i + 1, v, .cons _ t, e => by
    obtain ⟨d, h1, h2⟩ := RpA.get (i := i) (v := v) t (by simpa using e)
    exact ⟨d, by simpa using h1, h2⟩
theorem RpA.at : ∀ {vs : List V} {ds : List PyData} {i : Nat} {d : PyData}, RpA K H vs ds → ds[i]? = some d → ∃ v, vs[i]? = some v ∧ Rp K H v d
  | _, _, i, _, .nil, e => by simp at e
  | _, _, 0, _, .cons h _, e => ⟨_, rfl, by simp at e; subst e; exact h⟩
  | _, _, i + 1, v, .cons _ t, e => by
    obtain ⟨d, h1, h2⟩ := RpA.at (i := i) (d := v) t (by simpa using e)
    exact ⟨d, by simpa using h1, h2⟩
theorem RpA.of_get : ∀ {vs : List V} {ds : List PyData}, vs.length = ds.length → (∀ (i : Nat) v d, vs[i]? = some v → ds[i]? = some d → Rp K H v d) → RpA K H vs ds
  | [], [], _, _ => .nil
  | [], _ :: _, e, _ => by simp at e
  | _ :: _, [], e, _ => by simp at e
  | v :: vs, d :: ds, e, h => .cons (h 0 v d rfl rfl) (RpA.of_get (by simpa using e) fun i v' d' a b => h (i + 1) v' d' (by simpa using a) (by simpa using b))
theorem RpA.append : ∀ {vs ws : List V} {ds es : List PyData}, RpA K H vs ds → RpA K H ws es → RpA K H (vs ++ ws) (ds ++ es)
  | _, _, _, _, .nil, t => t
  | _, _, _, _, .cons h r, t => .cons h (r.append t)
theorem RpA.one {v : V} {d : PyData} (h : Rp K H v d) : RpA K H [v] [d] := .cons h .nil
theorem RpA.set : ∀ {vs : List V} {ds : List PyData} {v : V} {d : PyData} (i : Nat), RpA K H vs ds → Rp K H v d → RpA K H (vs.set i v) (ds.set i d)
  | _, _, _, _, _, .nil, _ => .nil
  | _, _, _, _, 0, .cons _ t, h => .cons h t
  | _, _, _, _, i + 1, .cons q t, h => .cons q (RpA.set i t h)
theorem RpA.take : ∀ {vs : List V} {ds : List PyData} (i : Nat), RpA K H vs ds → RpA K H (vs.take i) (ds.take i)
  | _, _, 0, _ => .nil
  | _, _, _ + 1, .nil => .nil
  | _, _, i + 1, .cons q t => .cons q (RpA.take i t)
theorem RpA.drop : ∀ {vs : List V} {ds : List PyData} (i : Nat), RpA K H vs ds → RpA K H (vs.drop i) (ds.drop i)
  | _, _, 0, h => h
  | _, _, _ + 1, .nil => .nil
  | _, _, i + 1, .cons _ t => RpA.drop i t
theorem RpA.reverse {vs : List V} {ds : List PyData} (h : RpA K H vs ds) : RpA K H vs.reverse ds.reverse := by
  induction ds generalizing vs with
  | nil => cases h; exact .nil
  | cons d ds ih =>
    cases h with
    | cons q t =>
      rw [List.reverse_cons, List.reverse_cons]
      exact (ih t).append (.one q)
theorem RpA.eraseIdx {vs : List V} {ds : List PyData} (i : Nat) (h : RpA K H vs ds) : RpA K H (vs.eraseIdx i) (ds.eraseIdx i) := by
  rw [List.eraseIdx_eq_take_drop_succ, List.eraseIdx_eq_take_drop_succ]
  exact (h.take i).append (h.drop (i + 1))
theorem RpA.dropLast {vs : List V} {ds : List PyData} (h : RpA K H vs ds) : RpA K H vs.dropLast ds.dropLast := by
  rw [List.dropLast_eq_take, List.dropLast_eq_take, h.length]
  exact h.take _
theorem RpA.ints : ∀ (ns : List Int), RpA K H (ns.map V.int) (ns.map PyData.int)
  | [] => .nil
  | n :: ns => .cons (.int n) (RpA.ints ns)
theorem RpA.ints_inv : ∀ {ns : List Int} {vs : List V}, RpA K H vs (ns.map PyData.int) → vs = ns.map V.int
  | [], _, .nil => rfl
  | n :: ns, _, .cons h t => by
    cases h
    exact congrArg (V.int n :: ·) (RpA.ints_inv t)
theorem RpA.bools_inv : ∀ {ns : List Bool} {vs : List V}, RpA K H vs (ns.map PyData.bool) → vs = ns.map V.bl
  | [], _, .nil => rfl
  | n :: ns, _, .cons h t => by
    cases h
    exact congrArg (V.bl n :: ·) (RpA.bools_inv t)
theorem RpA.replicate {v : V} {d : PyData} (h : Rp K H v d) : ∀ n : Nat, RpA K H (List.replicate n v) (List.replicate n d)
  | 0 => .nil
  | n + 1 => .cons h (RpA.replicate h n)
end

/-! ### owned objects -/
inductive Ob where
  | lst (ds : List PyData) | strm | strmX (l : Addr) (ns : List Int) (c k : Int) | dk (n : Nat) (f : Key → Option PyData) | dt (n : Nat) (f : List Key → Option PyData)
  | ll (qs : List Addr) (rows : List (List PyData)) | raw (o : HO)
def fp (p : Addr) : Ob → List Addr
  | .ll qs _ => p :: qs
  | _ => [p]
def RpO (K : PySem.W.Frag) (H : Hp) : Option V → Option PyData → Prop
  | none, none => True
  | some v, some d => Rp K H v d
  | _, _ => False
theorem RpO.mono {K : PySem.W.Frag} {H H' : Hp} (e : Same H H') : ∀ {o : Option V} {r : Option PyData}, RpO K H o r → RpO K H' o r
  | none, none, _ => trivial
  | some _, some _, h => Rp.mono e _ _ h
  | none, some _, h => h.elim
  | some _, none, h => h.elim
def ObAt (K : PySem.W.Frag) (H0 H : Hp) (p : Addr) : Ob → Prop
  | .lst ds => ∃ xs, H p = some (.lst xs) ∧ RpA K H0 xs ds
  | .strm => ∃ (l : Addr) (c k : Int) (ns : List Int), H p = some (.lst [.ref l, .int c, .int k]) ∧ H0 l = some (.lst (ns.map V.int)) ∧ 0 ≤ k
  | .strmX l ns c k => H p = some (.lst [.ref l, .int c, .int k]) ∧ H0 l = some (.lst (ns.map V.int)) ∧ 0 ≤ k
  | .dk n f => ∃ ws : List (Key × V), H p = some (.dK ws) ∧ ws.length ≤ n ∧ ∀ k, RpO K H0 (valV ws k) (f k)
  | .dt n f => ∃ ws : List (List Key × V), H p = some (.dT ws) ∧ ws.length ≤ n ∧ ∀ k, RpO K H0 (valV ws k) (f k)
  | .ll qs rows => H p = some (.lst (qs.map V.ref)) ∧ (p :: qs).Nodup ∧ qs.length = rows.length ∧ ∀ (i : Nat) q r, qs[i]? = some q → rows[i]? = some r → ∃ xs, H q = some (.lst xs) ∧ RpA K H0 xs r
  | .raw o => H p = some o
section
variable {K : PySem.W.Frag} {H0 H0' H H' : Hp} {p : Addr} {b : Ob}
theorem ObAt.dom (h : ObAt K H0 H p b) : ∀ a, a ∈ fp p b → H a ≠ none := by
  intro a ha
  cases b with
  | lst ds => obtain ⟨xs, e, _⟩ := h; have : a = p := by simpa [fp] using ha
              subst this; rw [e]; exact fun z => nomatch z
  | strm => obtain ⟨l, c, k, ns, e, _⟩ := h; have : a = p := by simpa [fp] using ha
            subst this; rw [e]; exact fun z => nomatch z
  | strmX l ns c k => obtain ⟨e, _⟩ := h; have : a = p := by simpa [fp] using ha
                      subst this; rw [e]; exact fun z => nomatch z
  | dk n f => obtain ⟨xs, e, _⟩ := h; have : a = p := by simpa [fp] using ha
              subst this; rw [e]; exact fun z => nomatch z
  | dt n f => obtain ⟨xs, e, _⟩ := h; have : a = p := by simpa [fp] using ha
              subst this; rw [e]; exact fun z => nomatch z
  | raw o => have e : H p = some o := h
             have : a = p := by simpa [fp] using ha
             subst this; rw [e]; exact fun z => nomatch z
  | ll qs rows =>
    obtain ⟨e, _, hl, hq⟩ := h
    rcases List.mem_cons.mp (show a ∈ p :: qs from ha) with rfl | ha
    · rw [e]; exact fun z => nomatch z
    · obtain ⟨i, hi, rfl⟩ := List.mem_iff_getElem.mp ha
      obtain ⟨xs, e, _⟩ := hq i qs[i] (rows[i]'(by omega)) (by simp [hi]) (by simp [show i < rows.length by omega])
      rw [e]; exact fun z => nomatch z
theorem Paired.mono2 {α β : Type} {F G : α → β → Prop} : ∀ {l₁ : List α} {l₂ : List β}, Paired F l₁ l₂ → (∀ a b, F a b → G a b) → Paired G l₁ l₂
  | _, _, .nil, _ => .nil
  | _, _, .cons r t, f => .cons (f _ _ r) (Paired.mono2 t f)
theorem ObAt.cong (h : ObAt K H0 H p b) (e0 : Same H0 H0') (e : ∀ a, a ∈ fp p b → H' a = H a) : ObAt K H0' H' p b := by
  cases b with
  | lst ds => obtain ⟨xs, h1, h2⟩ := h; exact ⟨xs, (e p (by simp [fp])).trans h1, RpA.mono e0 _ _ h2⟩
  | strm => obtain ⟨l, c, k, ns, h1, h2, h3⟩ := h; exact ⟨l, c, k, ns, (e p (by simp [fp])).trans h1, e0 _ _ h2, h3⟩
  | strmX l ns c k => obtain ⟨h1, h2, h3⟩ := h; exact ⟨(e p (by simp [fp])).trans h1, e0 _ _ h2, h3⟩
  | dk n f => obtain ⟨xs, h1, h2, h3⟩ := h; exact ⟨xs, (e p (by simp [fp])).trans h1, h2, fun k => (h3 k).mono e0⟩
  | dt n f => obtain ⟨xs, h1, h2, h3⟩ := h; exact ⟨xs, (e p (by simp [fp])).trans h1, h2, fun k => (h3 k).mono e0⟩
  | raw o => exact (e p (by simp [fp])).trans h
  | ll qs rows =>
    obtain ⟨h1, h2, h3, h4⟩ := h
    refine ⟨(e p (by simp [fp])).trans h1, h2, h3, fun i q r hq hr => ?_⟩
    obtain ⟨xs, h5, h6⟩ := h4 i q r hq hr
    exact ⟨xs, (e q (List.mem_cons_of_mem _ (List.mem_of_getElem? hq))).trans h5, RpA.mono e0 _ _ h6⟩
theorem ObAt.mono (h : ObAt K H0 H p b) (e0 : Same H0 H0') (e : Same H H') : ObAt K H0' H' p b := by
  refine h.cong e0 fun a ha => ?_
  have hd := h.dom a ha
  cases q : H a with
  | none => exact absurd q hd
  | some o => exact e a o q
end

/-! ### the abstract store -/
inductive Sl where
  | un | dat (d : PyData) | own (p : Addr) (b : Ob)
def SlOk (K : PySem.W.Frag) (H0 H : Hp) (o : Option V) : Sl → Prop
  | .un => True
  | .dat d => ∃ v, o = some v ∧ Rp K H0 v d
  | .own p b => o = some (.ref p) ∧ ObAt K H0 H p b
/-- the base: what stood at the entry (data, all), what may be changed -/
structure Bs where
  b0 : Hp
  b : Hp
  M : Addr → Prop
/-- objects that are known to be the def's own -/
def mine : Ob → Prop
  | .strm => True
  | .strmX _ _ _ _ => True
  | .raw _ => True
  | _ => False
structure St8 (K : PySem.W.Frag) (B : Bs) (Γ : List Sl) (σ : L2.St) (H0 H : Hp) : Prop where
  sl : ∀ (i : Nat) s, Γ[i]? = some s → ∃ o, σ[i]? = some o ∧ SlOk K H0 H o s
  ex : Same H0 H
  sep : ∀ (i j : Nat) p b q b', i ≠ j → Γ[i]? = some (.own p b) → Γ[j]? = some (.own q b') → ∀ a, a ∈ fp p b → a ∉ fp q b'
  fr : ∀ (i : Nat) p b, Γ[i]? = some (.own p b) → ∀ a, a ∈ fp p b → H0 a = none ∧ ((B.M a ∧ mine b) ∨ B.b a = none)
  b0 : Same B.b0 H0
  old : ∀ a, B.b a ≠ none → H0 a = B.b0 a
  keep : ∀ a o, B.b a = some o → ¬ B.M a → H a = some o
  dom : ∀ a, B.b a ≠ none → H a ≠ none
  md : ∀ a, B.M a → B.b a ≠ none
def Frs (K : PySem.W.Frag) (B : Bs) (Γ : List Sl) (H0 H : Hp) (p : Addr) (b : Ob) : Prop :=
  ObAt K H0 H p b ∧ ∀ a, a ∈ fp p b → H0 a = none ∧ B.b a = none ∧ ∀ (i : Nat) q b', Γ[i]? = some (.own q b') → a ∉ fp q b'
section
variable {K : PySem.W.Frag} {B : Bs} {Γ : List Sl} {σ : L2.St} {H0 H : Hp} {p : Addr} {b : Ob} {o : HO}
theorem ne_none_of {H : Hp} {a : Addr} {o : HO} (e : H a = some o) : H a ≠ none := by rw [e]; exact fun z => nomatch z
theorem St8.free0 (st : St8 K B Γ σ H0 H) (hp : H p = none) : H0 p = none := st.ex.free hp
theorem St8.freeB (st : St8 K B Γ σ H0 H) (hp : H p = none) : B.b p = none := by
  cases q : B.b p with
  | none => rfl
  | some o => exact absurd hp (st.dom p (ne_none_of q))
theorem St8.domO (st : St8 K B Γ σ H0 H) {i : Nat} (h : Γ[i]? = some (.own p b)) : ObAt K H0 H p b := by
  obtain ⟨o, _, h⟩ := st.sl i _ h
  exact h.2
theorem St8.notO (st : St8 K B Γ σ H0 H) {a : Addr} (ha : H a = none) {i : Nat} (h : Γ[i]? = some (.own p b)) : a ∉ fp p b := fun z => (st.domO h).dom a z ha
/-- a new object that is no data -/
theorem St8.new (st : St8 K B Γ σ H0 H) (hp : H p = none) : St8 K B Γ σ H0 (upd H p o) := by
  have e := same_upd (o := o) hp
  refine ⟨fun i s h => ?_, st.ex.trans e, st.sep, st.fr, st.b0, st.old, fun a u h1 h2 => e a u (st.keep a u h1 h2), fun a ha => ?_, st.md⟩
  · obtain ⟨w, h1, h2⟩ := st.sl i s h
    refine ⟨w, h1, ?_⟩
    cases s with
    | un => trivial
    | dat d => exact h2
    | own q b' => exact ⟨h2.1, h2.2.mono (Same.refl _) e⟩
  · have := st.dom a ha
    cases q : H a with
    | none => exact absurd q this
    | some u => exact ne_none_of (e a u q)
/-- an object becomes data -/
theorem St8.grow (st : St8 K B Γ σ H0 H) (hp : H p = some o) (h0 : H0 p = none) (hb : B.b p = none) (hq : ∀ (i : Nat) q b', Γ[i]? = some (.own q b') → p ∉ fp q b') : St8 K B Γ σ (upd H0 p o) H := by
  have e := same_upd (o := o) h0
  refine ⟨fun i s h => ?_, fun a u h => ?_, st.sep, fun i q b' h a ha => ?_, st.b0.trans e, fun a ha => ?_, st.keep, st.dom, st.md⟩
  · obtain ⟨w, h1, h2⟩ := st.sl i s h
    refine ⟨w, h1, ?_⟩
    cases s with
    | un => trivial
    | dat d => obtain ⟨v, h3, h4⟩ := h2; exact ⟨v, h3, Rp.mono e _ _ h4⟩
    | own q b' => exact ⟨h2.1, h2.2.mono e (Same.refl _)⟩
  · by_cases hap : a = p
    · subst hap; rw [upd_same] at h; cases h; exact hp
    · rw [upd_ne hap] at h; exact st.ex a u h
  · obtain ⟨h1, h2⟩ := st.fr i q b' h a ha
    refine ⟨?_, h2⟩
    rw [upd_ne (show a ≠ p from fun z => hq i q b' h (by rw [← z]; exact ha))]
    exact h1
  · rw [upd_ne (fun z => ha (by rw [z]; exact hb))]
    exact st.old a ha
/-- a new object that is data -/
theorem St8.alloc (st : St8 K B Γ σ H0 H) (hp : H p = none) : St8 K B Γ σ (upd H0 p o) (upd H p o) ∧ Same H0 (upd H0 p o) :=
  ⟨(st.new hp).grow upd_same (st.free0 hp) (st.freeB hp) fun i q b' h => st.notO hp h, same_upd (st.free0 hp)⟩
theorem St8.frs (st : St8 K B Γ σ H0 H) (hp : H p = none) (h1 : fp p b = [p]) (h : ObAt K H0 (upd H p o) p b) : Frs K B Γ H0 (upd H p o) p b := by
  refine ⟨h, fun a ha => ?_⟩
  rw [h1] at ha
  have : a = p := by simpa using ha
  subst this
  exact ⟨st.free0 hp, st.freeB hp, fun i q b' hq => st.notO hp hq⟩
theorem getset {α : Type} {l : List α} {i j : Nat} {x y : α} (h : (l.set i x)[j]? = some y) : (i = j ∧ y = x ∧ i < l.length) ∨ (i ≠ j ∧ l[j]? = some y) := by
  rw [List.getElem?_set] at h
  by_cases e : i = j
  · subst e
    rw [if_pos rfl] at h
    by_cases hl : i < l.length
    · rw [if_pos hl] at h; cases h; exact .inl ⟨rfl, rfl, hl⟩
    · rw [if_neg hl] at h; cases h
  · rw [if_neg e] at h; exact .inr ⟨e, h⟩
theorem St8.lt (st : St8 K B Γ σ H0 H) {i : Nat} (h : i < Γ.length) : i < σ.length := by
  obtain ⟨o, h1, _⟩ := st.sl i Γ[i] (by simp [h])
  exact (List.getElem?_eq_some_iff.mp h1).1
theorem St8.setD {v : V} {d : PyData} (st : St8 K B Γ σ H0 H) (i : Nat) (r : Rp K H0 v d) : St8 K B (Γ.set i (.dat d)) (σ.set i (some v)) H0 H := by
  refine ⟨fun j s h => ?_, st.ex, fun j k p b q b' hjk h1 h2 => ?_, fun j p b h => ?_, st.b0, st.old, st.keep, st.dom, st.md⟩
  · rcases getset h with ⟨rfl, rfl, hl⟩ | ⟨hne, h⟩
    · exact ⟨some v, by rw [List.getElem?_set_self (st.lt hl)], v, rfl, r⟩
    · obtain ⟨o, e, ok⟩ := st.sl j s h
      exact ⟨o, by rw [List.getElem?_set_ne hne]; exact e, ok⟩
  · rcases getset h1 with ⟨_, z, _⟩ | ⟨_, h1⟩
    · cases z
    rcases getset h2 with ⟨_, z, _⟩ | ⟨_, h2⟩
    · cases z
    exact st.sep j k p b q b' hjk h1 h2
  · rcases getset h with ⟨_, z, _⟩ | ⟨_, h⟩
    · cases z
    exact st.fr j p b h
theorem St8.setO (st : St8 K B Γ σ H0 H) (i : Nat) (r : Frs K B Γ H0 H p b) : St8 K B (Γ.set i (.own p b)) (σ.set i (some (.ref p))) H0 H := by
  refine ⟨fun j s h => ?_, st.ex, fun j k p1 b1 q b' hjk h1 h2 => ?_, fun j p1 b1 h => ?_, st.b0, st.old, st.keep, st.dom, st.md⟩
  · rcases getset h with ⟨rfl, rfl, hl⟩ | ⟨hne, h⟩
    · exact ⟨some (.ref p), by rw [List.getElem?_set_self (st.lt hl)], rfl, r.1⟩
    · obtain ⟨o, e, ok⟩ := st.sl j s h
      exact ⟨o, by rw [List.getElem?_set_ne hne]; exact e, ok⟩
  · rcases getset h1 with ⟨z1, z, _⟩ | ⟨_, h1⟩
    · cases z
      rcases getset h2 with ⟨z2, _, _⟩ | ⟨_, h2⟩
      · exact absurd (z1.symm.trans z2) hjk
      · exact fun a ha => (r.2 a ha).2.2 k q b' h2
    rcases getset h2 with ⟨_, z, _⟩ | ⟨_, h2⟩
    · cases z
      exact fun a ha hb => (r.2 a hb).2.2 j p1 b1 h1 ha
    exact st.sep j k p1 b1 q b' hjk h1 h2
  · rcases getset h with ⟨_, z, _⟩ | ⟨_, h⟩
    · cases z
      exact fun a ha => ⟨(r.2 a ha).1, .inr (r.2 a ha).2.1⟩
    exact st.fr j p1 b1 h
/-- a slot forgotten -/
theorem St8.drop (st : St8 K B Γ σ H0 H) (i : Nat) : St8 K B (Γ.set i .un) σ H0 H := by
  refine ⟨fun j s h => ?_, st.ex, fun j k p b q b' hjk h1 h2 => ?_, fun j p b h => ?_, st.b0, st.old, st.keep, st.dom, st.md⟩
  · rcases getset h with ⟨rfl, rfl, hl⟩ | ⟨hne, h⟩
    · obtain ⟨o, h1, _⟩ := st.sl i Γ[i] (by simp [hl])
      exact ⟨o, h1, trivial⟩
    · exact st.sl j s h
  · rcases getset h1 with ⟨_, z, _⟩ | ⟨_, h1⟩
    · cases z
    rcases getset h2 with ⟨_, z, _⟩ | ⟨_, h2⟩
    · cases z
    exact st.sep j k p b q b' hjk h1 h2
  · rcases getset h with ⟨_, z, _⟩ | ⟨_, h⟩
    · cases z
    exact st.fr j p b h
/-- an owned object changed -/
theorem St8.chg {i : Nat} {b' : Ob} (st : St8 K B Γ σ H0 H) (h : Γ[i]? = some (.own p b)) (h1 : fp p b = [p]) (h2 : fp p b' = [p]) (hm : mine b → mine b') (hb : ObAt K H0 (upd H p o) p b') : St8 K B (Γ.set i (.own p b')) σ H0 (upd H p o) := by
  obtain ⟨f0, fM⟩ := st.fr i p b h p (by rw [h1]; exact List.mem_singleton.mpr rfl)
  have oth : ∀ (j : Nat) q c, i ≠ j → Γ[j]? = some (.own q c) → p ∉ fp q c := fun j q c hne hj => st.sep i j p b q c hne h hj p (by rw [h1]; exact List.mem_singleton.mpr rfl)
  refine ⟨fun j s hj => ?_, fun a u e => ?_, fun j k p1 b1 q c hjk e1 e2 => ?_, fun j p1 b1 hj => ?_, st.b0, st.old, fun a u e1 e2 => ?_, fun a ha => ?_, st.md⟩
  · rcases getset hj with ⟨rfl, rfl, hl⟩ | ⟨hne, hj⟩
    · obtain ⟨w, e, ok⟩ := st.sl i _ h
      exact ⟨w, e, ok.1, hb⟩
    · obtain ⟨w, e, ok⟩ := st.sl j s hj
      refine ⟨w, e, ?_⟩
      cases s with
      | un => trivial
      | dat d => exact ok
      | own q c => exact ⟨ok.1, ok.2.cong (Same.refl _) fun a ha => upd_ne fun z => oth j q c hne hj (z ▸ ha)⟩
  · rw [upd_ne (fun z => by rw [z, f0] at e; cases e)]
    exact st.ex a u e
  · rcases getset e1 with ⟨z1, z, _⟩ | ⟨n1, e1⟩
    · cases z
      rcases getset e2 with ⟨z2, _, _⟩ | ⟨n2, e2⟩
      · exact absurd (z1.symm.trans z2) hjk
      · rw [h2]
        intro a ha
        have : a = p := by simpa using ha
        rw [this]
        exact oth k q c n2 e2
    rcases getset e2 with ⟨_, z, _⟩ | ⟨n2, e2⟩
    · cases z
      rw [h2]
      intro a ha hb'
      have : a = p := by simpa using hb'
      rw [this] at ha
      exact oth j p1 b1 n1 e1 ha
    exact st.sep j k p1 b1 q c hjk e1 e2
  · rcases getset hj with ⟨_, z, _⟩ | ⟨_, hj⟩
    · cases z
      rw [h2]
      intro a ha
      have : a = p := by simpa using ha
      subst this
      exact ⟨f0, fM.imp (fun z => ⟨z.1, hm z.2⟩) id⟩
    exact st.fr j p1 b1 hj
  · have : a ≠ p := fun z => by
      subst z
      rcases fM with z | z
      · exact e2 z.1
      · rw [z] at e1; cases e1
    rw [upd_ne this]
    exact st.keep a u e1 e2
  · by_cases z : a = p
    · subst z; exact ne_none_of upd_same
    · rw [upd_ne z]; exact st.dom a ha
/-- an owned list becomes data -/
theorem St8.frz {i : Nat} {ds : List PyData} (st : St8 K B Γ σ H0 H) (h : Γ[i]? = some (.own p (.lst ds))) : ∃ H0', Same H0 H0' ∧ St8 K B (Γ.set i (.dat (.list ds))) σ H0' H := by
  obtain ⟨w, e, rfl, xs, hx, rx⟩ := st.sl i _ h
  obtain ⟨f0, fM⟩ := st.fr i p _ h p (List.mem_singleton.mpr rfl)
  have fB : B.b p = none := by
    rcases fM with z | z
    · exact z.2.elim
    · exact z
  have st1 := st.drop i
  have st2 := st1.grow hx f0 fB fun j q c hj => by
    rcases getset hj with ⟨_, z, _⟩ | ⟨hne, hj⟩
    · cases z
    · exact st.sep i j p _ q c hne h hj p (List.mem_singleton.mpr rfl)
  have e0 : Same H0 (upd H0 p (.lst xs)) := same_upd f0
  refine ⟨_, e0, ?_⟩
  have st3 := st2.setD i (v := .ref p) (d := .list ds) (.lst upd_same (RpA.mono e0 _ _ rx))
  have e2 : σ.set i (some (.ref p)) = σ := by
    apply List.ext_getElem?
    intro j
    rw [List.getElem?_set]
    split
    · rename_i z
      subst z
      rw [e]
      rw [if_pos (List.getElem?_eq_some_iff.mp e).1]
    · rfl
  rw [e2, List.set_set] at st3
  exact st3
end
end Z
namespace Z
open PySem PySem.Spec PyProof.Rows L2

/-! ### judgements over the abstract store -/
section
variable (K : PySem.W.Frag)
/-- an expression gives data -/
def Wd (te : TE) (Γ : List Sl) (Φ : PyData → Prop) : Prop :=
  ∀ B σ H0 H, St8 K B Γ σ H0 H → ∀ Q : VK, (∀ v d H0' H', St8 K B Γ σ H0' H' → Same H0 H0' → Rp K H0' v d → Φ d → Q v H') → te σ H Q
/-- .. a new object of its own -/
def Wf (te : TE) (Γ : List Sl) (Φ : Ob → Prop) : Prop :=
  ∀ B σ H0 H, St8 K B Γ σ H0 H → ∀ Q : VK, (∀ p b H0' H', St8 K B Γ σ H0' H' → Same H0 H0' → Frs K B Γ H0' H' p b → Φ b → Q (.ref p) H') → te σ H Q
/-- something to be read: data, or an owned list -/
def ROk (H0 : Hp) (Γ : List Sl) (v : V) (d : PyData) : Prop := Rp K H0 v d ∨ ∃ (i : Nat) (p : Addr) (ds : List PyData), d = .list ds ∧ Γ[i]? = some (.own p (.lst ds)) ∧ v = .ref p
def Wr (te : TE) (Γ : List Sl) (Φ : PyData → Prop) : Prop :=
  ∀ B σ H0 H, St8 K B Γ σ H0 H → ∀ Q : VK, (∀ v d H0' H', St8 K B Γ σ H0' H' → Same H0 H0' → ROk K H0' Γ v d → Φ d → Q v H') → te σ H Q
def Wt (tt : TT) (Γ : List Sl) (Φ : Bool → Prop) : Prop :=
  ∀ B σ H0 H, St8 K B Γ σ H0 H → ∀ Q : Bool → Hp → Prop, (∀ b H0' H', St8 K B Γ σ H0' H' → Same H0 H0' → Φ b → Q b H') → tt σ H Q
def Wa (ta : TA) (Γ : List Sl) (Φ : List PyData → Prop) : Prop :=
  ∀ B σ H0 H, St8 K B Γ σ H0 H → ∀ Q : List V → Hp → Prop, (∀ vs ds H0' H', St8 K B Γ σ H0' H' → Same H0 H0' → RpA K H0' vs ds → Φ ds → Q vs H') → ta σ H Q
def Wo (to : TO) (Γ : List Sl) (Φ : Option Int → Prop) : Prop :=
  ∀ B σ H0 H, St8 K B Γ σ H0 H → ∀ Q : Option Int → Hp → Prop, (∀ o H0' H', St8 K B Γ σ H0' H' → Same H0 H0' → Φ o → Q o H') → to σ H Q
end
section
variable {K : PySem.W.Frag} {Γ : List Sl} {Φ : PyData → Prop} {ΦO : Ob → Prop} {ΦB : Bool → Prop} {ΦA : List PyData → Prop} {ta tb tc te : TE} {tr : TA} {t u : TT}
theorem ROk.mono {H0 H0' : Hp} {v : V} {d : PyData} (e : Same H0 H0') (h : ROk K H0 Γ v d) : ROk K H0' Γ v d := h.imp (Rp.mono e _ _) id
theorem ROk.lst {B : Bs} {σ : L2.St} {H0 H : Hp} {v : V} {ds : List PyData} (st : St8 K B Γ σ H0 H) (h : ROk K H0 Γ v (.list ds)) : ∃ a xs, v = .ref a ∧ H a = some (.lst xs) ∧ RpA K H0 xs ds := by
  rcases h with h | ⟨i, p, ds', e, hp, rfl⟩
  · cases h with
    | lst h1 h2 => exact ⟨_, _, rfl, st.ex _ _ h1, h2⟩
  · cases e
    obtain ⟨xs, h1, h2⟩ := st.domO hp
    exact ⟨p, xs, rfl, h1, h2⟩
theorem ROk.dp {B : Bs} {σ : L2.St} {H0 H : Hp} {v : V} {d : PyData} (st : St8 K B Γ σ H0 H) (h : ROk K H0 Γ v d) : Dp K H v d := by
  rcases h with h | ⟨i, p, ds', rfl, hp, rfl⟩
  · exact Rp.dp _ _ (Rp.mono st.ex _ _ h)
  · obtain ⟨xs, h1, h2⟩ := st.domO hp
    exact .lst (SqL.of h1) (RpA.dp _ _ (RpA.mono st.ex _ _ h2))
theorem ROk.seq {B : Bs} {σ : L2.St} {H0 H : Hp} {v : V} {d : PyData} {ds : List PyData} (st : St8 K B Γ σ H0 H) (h : ROk K H0 Γ v d) (e : d = .list ds ∨ d = .tuple ds) : ∃ a xs, v = .ref a ∧ (SqL K H a xs ∨ SqT K H a xs) ∧ RpA K H0 xs ds := by
  rcases e with rfl | rfl
  · obtain ⟨a, xs, e, h1, h2⟩ := h.lst st
    exact ⟨a, xs, e, .inl (SqL.of h1), h2⟩
  · rcases h with h | ⟨i, p, ds', e, hp, rfl⟩
    · cases h with
      | tup h1 h2 => exact ⟨_, _, rfl, .inr (same_t st.ex (SqT.of h1)), h2⟩
    · cases e

theorem St8.frsL {B : Bs} {σ : L2.St} {H0 H : Hp} {p : Addr} {xs : List V} {ds : List PyData} (st : St8 K B Γ σ H0 H) (hp : H p = none) (r : RpA K H0 xs ds) : Frs K B Γ H0 (upd H p (.lst xs)) p (.lst ds) :=
  st.frs (b := .lst ds) hp rfl ⟨xs, upd_same, r⟩
/-! ### from one to another -/
theorem wr_d (h : Wd K te Γ Φ) : Wr K te Γ Φ := fun B σ H0 H st Q k => h B σ H0 H st Q fun v d H0' H' s e r q => k v d H0' H' s e (.inl r) q
theorem Frs.toData {B : Bs} {σ : L2.St} {H0 H : Hp} {p : Addr} {ds : List PyData} (st : St8 K B Γ σ H0 H) (f : Frs K B Γ H0 H p (.lst ds)) :
    ∃ H0', Same H0 H0' ∧ St8 K B Γ σ H0' H ∧ Rp K H0' (.ref p) (.list ds) := by
  obtain ⟨⟨xs, h1, h2⟩, h3⟩ := f
  obtain ⟨f0, fB, fq⟩ := h3 p (List.mem_singleton.mpr rfl)
  have e := same_upd (o := .lst xs) f0
  exact ⟨_, e, st.grow h1 f0 fB fq, .lst upd_same (RpA.mono e _ _ h2)⟩
/-- a new list taken as data -/
theorem wd_f (h : Wf K te Γ fun b => ∃ ds, b = .lst ds ∧ Φ (.list ds)) : Wd K te Γ Φ := fun B σ H0 H st Q k => h B σ H0 H st Q fun p b H0' H' s e f q => by
  obtain ⟨ds, rfl, q⟩ := q
  obtain ⟨H0'', e2, s2, r⟩ := f.toData s
  exact k _ _ _ _ s2 (e.trans e2) r q
theorem wr_f (h : Wf K te Γ fun b => ∃ ds, b = .lst ds ∧ Φ (.list ds)) : Wr K te Γ Φ := wr_d (wd_f h)
theorem wr_own {i : Nat} {p : Addr} {ds : List PyData} (h : Γ[i]? = some (.own p (.lst ds))) (q : Φ (.list ds)) : Wr K (tVar i) Γ Φ := fun B σ H0 H st Q k => by
  obtain ⟨o, e, rfl, ho⟩ := st.sl i _ h
  exact ⟨_, e, k _ _ _ _ st (Same.refl _) (.inr ⟨i, p, ds, rfl, h, rfl⟩) q⟩
theorem Wd.imp {Ψ : PyData → Prop} (h : Wd K te Γ Ψ) (q : ∀ d, Ψ d → Φ d) : Wd K te Γ Φ := fun B σ H0 H st Q k => h B σ H0 H st Q fun v d H0' H' s e r w => k v d H0' H' s e r (q d w)
theorem Wf.imp {Ψ : Ob → Prop} (h : Wf K te Γ Ψ) (q : ∀ d, Ψ d → ΦO d) : Wf K te Γ ΦO := fun B σ H0 H st Q k => h B σ H0 H st Q fun v d H0' H' s e r w => k v d H0' H' s e r (q d w)
theorem Wt.imp {Ψ : Bool → Prop} (h : Wt K t Γ Ψ) (q : ∀ d, Ψ d → ΦB d) : Wt K t Γ ΦB := fun B σ H0 H st Q k => h B σ H0 H st Q fun d H0' H' s e w => k d H0' H' s e (q d w)

/-! ### names, constants -/
theorem wd_var {i : Nat} {d : PyData} (h : Γ[i]? = some (.dat d)) (q : Φ d) : Wd K (tVar i) Γ Φ := fun B σ H0 H st Q k => by
  obtain ⟨o, e, v, rfl, r⟩ := st.sl i _ h
  exact ⟨v, e, k v d H0 H st (Same.refl _) r q⟩
theorem wd_int {i : Int} (q : Φ (.int i)) : Wd K (tC (.int i)) Γ Φ := fun B σ H0 H st Q k => k _ _ _ _ st (Same.refl _) (.int i) q
theorem wd_bl {b : Bool} (q : Φ (.bool b)) : Wd K (tC (.bl b)) Γ Φ := fun B σ H0 H st Q k => k _ _ _ _ st (Same.refl _) (.bl b) q
theorem wd_non (q : Φ .none) : Wd K (tC .non) Γ Φ := fun B σ H0 H st Q k => k _ _ _ _ st (Same.refl _) .non q
theorem wd_str {x : Str} (q : Φ (.str x)) : Wd K (tC (.str x)) Γ Φ := fun B σ H0 H st Q k => k _ _ _ _ st (Same.refl _) (.str x) q

/-! ### operators on ints -/
theorem wd_I0 {g : Int → Int → Int} (h : Wd K ta Γ fun x => Wd K tb Γ fun y => ∃ i j, x = .int i ∧ y = .int j ∧ Φ (.int (g i j))) : Wd K (tOp (rI0 fun i j => .int (g i j)) ta tb) Γ Φ := fun B σ H0 H st Q k =>
  h B σ H0 H st _ fun v d H1 H' s e r q => q B σ H1 H' s _ fun v2 d2 H2 H'' s2 e2 r2 q2 => by
    obtain ⟨i, j, rfl, rfl, q3⟩ := q2
    cases r; cases r2
    exact ⟨i, j, rfl, rfl, k _ _ _ _ s2 (e.trans e2) (.int _) q3⟩
theorem wd_I {C : Int → Int → Prop} {g : Int → Int → Int} (h : Wd K ta Γ fun x => Wd K tb Γ fun y => ∃ i j, x = .int i ∧ y = .int j ∧ C i j ∧ Φ (.int (g i j))) : Wd K (tOp (rI C fun i j => .int (g i j)) ta tb) Γ Φ := fun B σ H0 H st Q k =>
  h B σ H0 H st _ fun v d H1 H' s e r q => q B σ H1 H' s _ fun v2 d2 H2 H'' s2 e2 r2 q2 => by
    obtain ⟨i, j, rfl, rfl, c, q3⟩ := q2
    cases r; cases r2
    exact ⟨i, j, rfl, rfl, c, k _ _ _ _ s2 (e.trans e2) (.int _) q3⟩
theorem wd_B0 {g : Int → Int → Bool} (h : Wd K ta Γ fun x => Wd K tb Γ fun y => ∃ i j, x = .int i ∧ y = .int j ∧ Φ (.bool (g i j))) : Wd K (tOp (rI0 fun i j => .bl (g i j)) ta tb) Γ Φ := fun B σ H0 H st Q k =>
  h B σ H0 H st _ fun v d H1 H' s e r q => q B σ H1 H' s _ fun v2 d2 H2 H'' s2 e2 r2 q2 => by
    obtain ⟨i, j, rfl, rfl, q3⟩ := q2
    cases r; cases r2
    exact ⟨i, j, rfl, rfl, k _ _ _ _ s2 (e.trans e2) (.bl _) q3⟩
theorem wd_U {g : Int → Int} (h : Wd K ta Γ fun x => ∃ i, x = .int i ∧ Φ (.int (g i))) : Wd K (tUn (rU fun i => .int (g i)) ta) Γ Φ := fun B σ H0 H st Q k =>
  h B σ H0 H st _ fun v d H1 H' s e r q => by
    obtain ⟨i, rfl, q⟩ := q
    cases r
    exact ⟨i, rfl, k _ _ _ _ s e (.int _) q⟩
/-- a <= b <= c -/
theorem wd_chain {g g' : Int → Int → Bool} (h : Wd K ta Γ fun x => Wd K tb Γ fun y => ∃ i j, x = .int i ∧ y = .int j ∧ (g i j = true → Wd K tc Γ fun z => ∃ k, z = .int k ∧ Φ (.bool (g' j k))) ∧ (g i j = false → Φ (.bool false))) :
    Wd K (tChain (rI0 fun i j => .bl (g i j)) (rI0 fun i j => .bl (g' i j)) ta tb tc) Γ Φ := fun B σ H0 H st Q k =>
  h B σ H0 H st _ fun v d H1 H' s e r q => q B σ H1 H' s _ fun v2 d2 H2 H'' s2 e2 r2 q2 => by
    obtain ⟨i, j, rfl, rfl, q3, q4⟩ := q2
    cases r; cases r2
    refine ⟨i, j, rfl, rfl, g i j, rfl, ?_⟩
    cases hg : g i j with
    | true =>
      rw [if_pos rfl]
      exact q3 hg B σ H2 H'' s2 _ fun v3 d3 H3 H3' s3 e3 r3 q5 => by
        obtain ⟨z, rfl, q5⟩ := q5
        cases r3
        exact ⟨j, z, rfl, rfl, k _ _ _ _ s3 ((e.trans e2).trans e3) (.bl _) q5⟩
    | false =>
      rw [if_neg Bool.false_ne_true]
      exact k _ _ _ _ s2 (e.trans e2) (.bl _) (q4 hg)

/-! ### None, True, == of data -/
def isNoneD : PyData → Bool
  | .none => true
  | _ => false
theorem Rp.none_iff {H0 : Hp} {v : V} {d : PyData} (r : Rp K H0 v d) : decide (v = .non) = isNoneD d := by
  cases r <;> rfl
theorem wd_isN (h : Wd K ta Γ fun x => Φ (.bool (isNoneD x))) : Wd K (tOp (fun x y H Q => y = .non ∧ Q (.bl (decide (x = .non))) H) ta (tC .non)) Γ Φ := fun B σ H0 H st Q k =>
  h B σ H0 H st _ fun v d H1 H' s e r q => ⟨rfl, by rw [r.none_iff]; exact k _ _ _ _ s e (.bl _) q⟩
theorem wd_notN (h : Wd K ta Γ fun x => Φ (.bool (!isNoneD x))) : Wd K (tOp (fun x y H Q => y = .non ∧ Q (.bl (!decide (x = .non))) H) ta (tC .non)) Γ Φ := fun B σ H0 H st Q k =>
  h B σ H0 H st _ fun v d H1 H' s e r q => ⟨rfl, by rw [r.none_iff]; exact k _ _ _ _ s e (.bl _) q⟩
theorem wd_isB (h : Wd K ta Γ fun x => Wd K tb Γ fun y => ∃ a b, x = .bool a ∧ y = .bool b ∧ Φ (.bool (decide (a = b)))) : Wd K (tOp rIsB ta tb) Γ Φ := fun B σ H0 H st Q k =>
  h B σ H0 H st _ fun v d H1 H' s e r q => q B σ H1 H' s _ fun v2 d2 H2 H'' s2 e2 r2 q2 => by
    obtain ⟨i, j, rfl, rfl, q3⟩ := q2
    cases r; cases r2
    exact ⟨i, j, rfl, rfl, k _ _ _ _ s2 (e.trans e2) (.bl _) q3⟩
theorem wd_isntB (h : Wd K ta Γ fun x => Wd K tb Γ fun y => ∃ a b, x = .bool a ∧ y = .bool b ∧ Φ (.bool (!decide (a = b)))) : Wd K (tOp rNotB ta tb) Γ Φ := fun B σ H0 H st Q k =>
  h B σ H0 H st _ fun v d H1 H' s e r q => q B σ H1 H' s _ fun v2 d2 H2 H'' s2 e2 r2 q2 => by
    obtain ⟨i, j, rfl, rfl, q3⟩ := q2
    cases r; cases r2
    exact ⟨i, j, rfl, rfl, k _ _ _ _ s2 (e.trans e2) (.bl _) q3⟩
theorem wd_eqD (h : Wr K ta Γ fun x => Wr K tb Γ fun y => SeqAt.shaped x = true ∧ SeqAt.shaped y = true ∧ Φ (.bool (PyData.eqv x y))) : Wd K (tOp (rEqD K) ta tb) Γ Φ := fun B σ H0 H st Q k =>
  h B σ H0 H st _ fun v d H1 H' s e r q => q B σ H1 H' s _ fun v2 d2 H2 H'' s2 e2 r2 q2 =>
    ⟨d, d2, (r.mono e2).dp s2, r2.dp s2, q2.1, q2.2.1, k _ _ _ _ s2 (e.trans e2) (.bl _) q2.2.2⟩
theorem wd_neD (h : Wr K ta Γ fun x => Wr K tb Γ fun y => SeqAt.shaped x = true ∧ SeqAt.shaped y = true ∧ Φ (.bool (!PyData.eqv x y))) : Wd K (tOp (rNeD K) ta tb) Γ Φ := fun B σ H0 H st Q k =>
  h B σ H0 H st _ fun v d H1 H' s e r q => q B σ H1 H' s _ fun v2 d2 H2 H'' s2 e2 r2 q2 =>
    ⟨d, d2, (r.mono e2).dp s2, r2.dp s2, q2.1, q2.2.1, k _ _ _ _ s2 (e.trans e2) (.bl _) q2.2.2⟩

/-! ### and, or, not, if as values -/
theorem wd_and (h : Wd K ta Γ fun x => ∃ a, x = .bool a ∧ (a = true → Wd K tb Γ Φ) ∧ (a = false → Φ (.bool false))) : Wd K (tAndV ta tb) Γ Φ := fun B σ H0 H st Q k =>
  h B σ H0 H st _ fun v d H1 H' s e r q => by
    obtain ⟨a, rfl, q1, q2⟩ := q
    cases r
    refine ⟨a, rfl, ?_⟩
    cases a with
    | true => rw [if_pos rfl]; exact q1 rfl B σ H1 H' s Q fun v d H2 H2' s2 e2 r2 q => k v d _ _ s2 (e.trans e2) r2 q
    | false => rw [if_neg Bool.false_ne_true]; exact k _ _ _ _ s e (.bl _) (q2 rfl)
theorem wd_or (h : Wd K ta Γ fun x => ∃ a, x = .bool a ∧ (a = true → Φ (.bool true)) ∧ (a = false → Wd K tb Γ Φ)) : Wd K (tOrV ta tb) Γ Φ := fun B σ H0 H st Q k =>
  h B σ H0 H st _ fun v d H1 H' s e r q => by
    obtain ⟨a, rfl, q1, q2⟩ := q
    cases r
    refine ⟨a, rfl, ?_⟩
    cases a with
    | true => rw [if_pos rfl]; exact k _ _ _ _ s e (.bl _) (q1 rfl)
    | false => rw [if_neg Bool.false_ne_true]; exact q2 rfl B σ H1 H' s Q fun v d H2 H2' s2 e2 r2 q => k v d _ _ s2 (e.trans e2) r2 q
theorem wd_not (h : Wd K ta Γ fun x => ∃ a, x = .bool a ∧ Φ (.bool (!a))) : Wd K (tNotV ta) Γ Φ := fun B σ H0 H st Q k =>
  h B σ H0 H st _ fun v d H1 H' s e r q => by
    obtain ⟨a, rfl, q⟩ := q
    cases r
    exact ⟨a, rfl, k _ _ _ _ s e (.bl _) q⟩
theorem wd_if (h : Wt K t Γ fun b => (b = true → Wd K ta Γ Φ) ∧ (b = false → Wd K tb Γ Φ)) : Wd K (tIf t ta tb) Γ Φ := fun B σ H0 H st Q k =>
  h B σ H0 H st _ fun b H1 H' s e q => by
    cases b with
    | true => rw [if_pos rfl]; exact q.1 rfl B σ H1 H' s Q fun v d H2 H2' s2 e2 r2 q => k v d _ _ s2 (e.trans e2) r2 q
    | false => rw [if_neg Bool.false_ne_true]; exact q.2 rfl B σ H1 H' s Q fun v d H2 H2' s2 e2 r2 q => k v d _ _ s2 (e.trans e2) r2 q
theorem wf_if (h : Wt K t Γ fun b => (b = true → Wf K ta Γ ΦO) ∧ (b = false → Wf K tb Γ ΦO)) : Wf K (tIf t ta tb) Γ ΦO := fun B σ H0 H st Q k =>
  h B σ H0 H st _ fun b H1 H' s e q => by
    cases b with
    | true => rw [if_pos rfl]; exact q.1 rfl B σ H1 H' s Q fun v d H2 H2' s2 e2 r2 q => k v d _ _ s2 (e.trans e2) r2 q
    | false => rw [if_neg Bool.false_ne_true]; exact q.2 rfl B σ H1 H' s Q fun v d H2 H2' s2 e2 r2 q => k v d _ _ s2 (e.trans e2) r2 q

/-! ### tests -/
theorem wt_test (h : Wd K ta Γ fun x => ∃ a, x = .bool a ∧ ΦB a) : Wt K (tTest ta) Γ ΦB := fun B σ H0 H st Q k =>
  h B σ H0 H st _ fun v d H1 H' s e r q => by
    obtain ⟨a, rfl, q⟩ := q
    cases r
    exact ⟨a, rfl, k _ _ _ s e q⟩
theorem wt_B (h : Wd K ta Γ fun x => ∃ a, x = .bool a ∧ ΦB a) : Wt K (tB ta) Γ ΦB := wt_test h
theorem wt_and (h : Wt K t Γ fun a => (a = true → Wt K u Γ ΦB) ∧ (a = false → ΦB false)) : Wt K (tAnd t u) Γ ΦB := fun B σ H0 H st Q k =>
  h B σ H0 H st _ fun b H1 H' s e q => by
    cases b with
    | true => rw [if_pos rfl]; exact q.1 rfl B σ H1 H' s Q fun d H2 H2' s2 e2 q => k d _ _ s2 (e.trans e2) q
    | false => rw [if_neg Bool.false_ne_true]; exact k _ _ _ s e (q.2 rfl)
theorem wt_or (h : Wt K t Γ fun a => (a = true → ΦB true) ∧ (a = false → Wt K u Γ ΦB)) : Wt K (tOr t u) Γ ΦB := fun B σ H0 H st Q k =>
  h B σ H0 H st _ fun b H1 H' s e q => by
    cases b with
    | true => rw [if_pos rfl]; exact k _ _ _ s e (q.1 rfl)
    | false => rw [if_neg Bool.false_ne_true]; exact q.2 rfl B σ H1 H' s Q fun d H2 H2' s2 e2 q => k d _ _ s2 (e.trans e2) q
theorem wt_not (h : Wt K t Γ fun a => ΦB (!a)) : Wt K (tNot t) Γ ΦB := fun B σ H0 H st Q k =>
  h B σ H0 H st _ fun b H1 H' s e q => k _ _ _ s e q
theorem wt_yes (q : ΦB true) : Wt K tYes Γ ΦB := fun B σ H0 H st Q k => k _ _ _ st (Same.refl _) q

/-! ### arguments -/
theorem wa_nil (q : ΦA []) : Wa K tNil Γ ΦA := fun B σ H0 H st Q k => k _ _ _ _ st (Same.refl _) .nil q
theorem wa_cons (h : Wd K ta Γ fun d => Wa K tr Γ fun ds => ΦA (d :: ds)) : Wa K (tCons ta tr) Γ ΦA := fun B σ H0 H st Q k =>
  h B σ H0 H st _ fun v d H1 H' s e r q => q B σ H1 H' s _ fun vs ds H2 H'' s2 e2 r2 q2 => k _ _ _ _ s2 (e.trans e2) (.cons (Rp.mono e2 _ _ r) r2) q2
theorem wo_none {ΦI : Option Int → Prop} (q : ΦI none) : Wo K tNoPart Γ ΦI := fun B σ H0 H st Q k => k _ _ _ st (Same.refl _) q
theorem wo_some {ΦI : Option Int → Prop} (h : Wd K ta Γ fun x => ∃ i, x = .int i ∧ ΦI (some i)) : Wo K (tPart ta) Γ ΦI := fun B σ H0 H st Q k =>
  h B σ H0 H st _ fun v d H1 H' s e r q => by
    obtain ⟨i, rfl, q⟩ := q
    cases r
    exact ⟨i, rfl, k _ _ _ s e q⟩

/-! ### tuples, lists -/
theorem wd_tup (h : Wa K tr Γ fun ds => ds.length ≤ sizeLine ∧ Φ (.tuple ds)) : Wd K (tTup tr) Γ Φ := fun B σ H0 H st Q k =>
  h B σ H0 H st _ fun vs ds H1 H' s e r q => ⟨by rw [r.length]; exact q.1, fun p hp => by
    obtain ⟨s2, e2⟩ := s.alloc (o := .tup vs) hp
    exact k _ _ _ _ s2 (e.trans e2) (.tup upd_same (RpA.mono e2 _ _ r)) q.2⟩
theorem wf_lst (h : Wa K tr Γ fun ds => ds.length ≤ sizeLine ∧ ΦO (.lst ds)) : Wf K (tLst tr) Γ ΦO := fun B σ H0 H st Q k =>
  h B σ H0 H st _ fun vs ds H1 H' s e r q => ⟨by rw [r.length]; exact q.1, fun p hp => k _ _ _ _ (s.new hp) e (s.frsL hp (r)) q.2⟩
def lenD : PyData → Option Nat
  | .list ds => some ds.length
  | .tuple ds => some ds.length
  | _ => none
def rLenQ (K : PySem.W.Frag) : List V → Hp → VK → Prop := fun xs H Q => ∃ p ys, xs = [.ref p] ∧ (SqL K H p ys ∨ SqT K H p ys) ∧ Q (.int ys.length) H
theorem lenD_seq {d : PyData} {n : Nat} (h : lenD d = some n) : ∃ ds, (d = .list ds ∨ d = .tuple ds) ∧ ds.length = n := by
  cases d with
  | list ds => exact ⟨ds, .inl rfl, Option.some.inj h⟩
  | tuple ds => exact ⟨ds, .inr rfl, Option.some.inj h⟩
  | none => cases h
  | bool _ => cases h
  | int _ => cases h
  | str _ => cases h
  | dict _ => cases h
theorem wd_len (h : Wr K ta Γ fun d => ∃ n, lenD d = some n ∧ Φ (.int (n : Int))) : Wd K (tCB (rLenQ K) (tCons ta tNil)) Γ Φ := fun B σ H0 H st Q k =>
  h B σ H0 H st _ fun v d H1 H' s e r q => by
    obtain ⟨n, hn, q⟩ := q
    obtain ⟨ds, hd, hl⟩ := lenD_seq hn
    obtain ⟨a, xs, rfl, h1, h2⟩ := r.seq s hd
    refine ⟨a, xs, rfl, h1, ?_⟩
    rw [h2.length, hl]
    exact k _ _ _ _ s e (.int _) q
theorem ixN_len {n m : Nat} (h : n = m) (i : Int) : ixN n i = ixN m i := by rw [h]
theorem RpA.atI {H0 : Hp} {xs : List V} {ds : List PyData} {i : Int} {d : PyData} (r : RpA K H0 xs ds) (h : L2.atI ds i = some d) : ∃ v, L2.atI xs i = some v ∧ Rp K H0 v d := by
  unfold L2.atI at h ⊢
  rw [r.length]
  cases q : ixN ds.length i with
  | none => rw [q] at h; cases h
  | some j =>
    rw [q] at h
    obtain ⟨v, h1, h2⟩ := r.at (show ds[j]? = some d from h)
    exact ⟨v, h1, h2⟩
theorem wd_ixL (h : Wr K ta Γ fun x => Wd K tb Γ fun y => ∃ ds i d, x = .list ds ∧ y = .int i ∧ L2.atI ds i = some d ∧ Φ d) : Wd K (tOp (rIxL K) ta tb) Γ Φ := fun B σ H0 H st Q k =>
  h B σ H0 H st _ fun v d H1 H' s e r q => q B σ H1 H' s _ fun v2 d2 H2 H'' s2 e2 r2 q2 => by
    obtain ⟨ds, i, d, rfl, rfl, hd, q3⟩ := q2
    obtain ⟨a, xs, rfl, h1, h2⟩ := (r.mono e2).lst s2
    cases r2
    obtain ⟨w, hw, rw'⟩ := h2.atI hd
    exact ⟨a, xs, i, w, rfl, rfl, SqL.of h1, hw, k _ _ _ _ s2 (e.trans e2) rw' q3⟩
theorem wd_ixT (h : Wd K ta Γ fun x => Wd K tb Γ fun y => ∃ ds i d, x = .tuple ds ∧ y = .int i ∧ L2.atI ds i = some d ∧ Φ d) : Wd K (tOp (rIxT K) ta tb) Γ Φ := fun B σ H0 H st Q k =>
  h B σ H0 H st _ fun v d H1 H' s e r q => q B σ H1 H' s _ fun v2 d2 H2 H'' s2 e2 r2 q2 => by
    obtain ⟨ds, i, d, rfl, rfl, hd, q3⟩ := q2
    cases r2
    cases r with
    | tup h1 h2 =>
      obtain ⟨w, hw, rw'⟩ := (RpA.mono e2 _ _ h2).atI hd
      exact ⟨_, _, i, w, rfl, rfl, same_t s2.ex (same_t e2 (SqT.of h1)), hw, k _ _ _ _ s2 (e.trans e2) rw' q3⟩
/-- the index may be into either -/
theorem wd_ix (h : Wr K ta Γ fun x => Wd K tb Γ fun y => ∃ ds i d, (x = .list ds ∨ x = .tuple ds) ∧ y = .int i ∧ L2.atI ds i = some d ∧ Φ d) : Wd K (tOp (rIx K) ta tb) Γ Φ := fun B σ H0 H st Q k =>
  h B σ H0 H st _ fun v d H1 H' s e r q => q B σ H1 H' s _ fun v2 d2 H2 H'' s2 e2 r2 q2 => by
    obtain ⟨ds, i, d, hx, rfl, hd, q3⟩ := q2
    obtain ⟨a, xs, rfl, h1, h2⟩ := (r.mono e2).seq s2 hx
    cases r2
    obtain ⟨w, hw, rw'⟩ := h2.atI hd
    rcases h1 with h1 | h1
    · exact .inl ⟨a, xs, i, w, rfl, rfl, h1, hw, k _ _ _ _ s2 (e.trans e2) rw' q3⟩
    · exact .inr (.inl ⟨a, xs, i, w, rfl, rfl, h1, hw, k _ _ _ _ s2 (e.trans e2) rw' q3⟩)
def cutA {α : Type} (xs : List α) (lo hi : Option Int) : List α := (xs.drop (HT.sIx xs.length 0 lo)).take (HT.sIx xs.length xs.length hi - HT.sIx xs.length 0 lo)
theorem RpA.cut {H0 : Hp} {xs : List V} {ds : List PyData} (r : RpA K H0 xs ds) (lo hi : Option Int) : RpA K H0 (cutV xs lo hi) (cutA ds lo hi) := by
  unfold cutV cutA
  rw [r.length]
  exact (r.drop _).take _
theorem wf_slL {tl th : TO} (h : Wr K ta Γ fun x => Wo K tl Γ fun lo => Wo K th Γ fun hi => ∃ ds, x = .list ds ∧ ΦO (.lst (cutA ds lo hi))) : Wf K (tSl (rSlL K) ta tl th) Γ ΦO := fun B σ H0 H st Q k =>
  h B σ H0 H st _ fun v d H1 H' s e r q => q B σ H1 H' s _ fun lo H2 H'' s2 e2 q2 => q2 B σ H2 H'' s2 _ fun hi H3 H''' s3 e3 q3 => by
    obtain ⟨ds, rfl, q4⟩ := q3
    obtain ⟨a, xs, rfl, h1, h2⟩ := (r.mono (e2.trans e3)).lst s3
    exact ⟨a, xs, rfl, SqL.of h1, fun p hp => k _ _ _ _ (s3.new hp) ((e.trans e2).trans e3) (s3.frsL hp (h2.cut lo hi)) q4⟩
theorem take_all {α : Type} (l : List α) : l.take l.length = l := List.take_of_length_le (Nat.le_refl _)
theorem wd_slT {tl th : TO} (h : Wd K ta Γ fun x => Wo K tl Γ fun lo => Wo K th Γ fun hi => ∃ ds, x = .tuple ds ∧ Φ (.tuple (cutA ds lo hi))) : Wd K (tSl (rSlA K) ta tl th) Γ Φ := fun B σ H0 H st Q k =>
  h B σ H0 H st _ fun v d H1 H' s e r q => q B σ H1 H' s _ fun lo H2 H'' s2 e2 q2 => q2 B σ H2 H'' s2 _ fun hi H3 H''' s3 e3 q3 => by
    obtain ⟨ds, rfl, q4⟩ := q3
    have r3 := Rp.mono (e2.trans e3) _ _ r
    cases r3 with
    | @tup a xs _ h1 h2 =>
      refine ⟨a, xs, rfl, same_t s3.ex (SqT.of h1), fun hw => ?_, fun _ p hp => ?_⟩
      · have ec : cutA ds lo hi = ds := by
          unfold cutA
          rw [← h2.length, hw.1, hw.2, Nat.sub_zero, h2.length]
          exact take_all ds
        rw [ec] at q4
        exact k _ _ _ _ s3 ((e.trans e2).trans e3) (.tup h1 h2) q4
      · obtain ⟨s4, e4⟩ := s3.alloc (o := .tup (cutV xs lo hi)) hp
        exact k _ _ _ _ s4 (((e.trans e2).trans e3).trans e4) (.tup upd_same (RpA.mono e4 _ _ (h2.cut lo hi))) q4
theorem wf_cat (h : Wr K ta Γ fun x => Wr K tb Γ fun y => ∃ xs ys, x = .list xs ∧ y = .list ys ∧ xs.length + ys.length ≤ sizeLine ∧ ΦO (.lst (xs ++ ys))) : Wf K (tOp rCat ta tb) Γ ΦO := fun B σ H0 H st Q k =>
  h B σ H0 H st _ fun v d H1 H' s e r q => q B σ H1 H' s _ fun v2 d2 H2 H'' s2 e2 r2 q2 => by
    obtain ⟨ds, ds', rfl, rfl, hl, q3⟩ := q2
    obtain ⟨a, xs, rfl, h1, h2⟩ := (r.mono e2).lst s2
    obtain ⟨a', ys, rfl, h3, h4⟩ := r2.lst s2
    refine ⟨a, a', xs, ys, rfl, rfl, h1, h3, by rw [h2.length, h4.length]; exact hl, fun p hp => ?_⟩
    exact k _ _ _ _ (s2.new hp) (e.trans e2) (s2.frsL hp (h2.append h4)) q3
theorem RpA.flat {H0 : Hp} {xs : List V} {ds : List PyData} (r : RpA K H0 xs ds) : ∀ n : Nat, RpA K H0 (List.replicate n xs).flatten (List.replicate n ds).flatten
  | 0 => .nil
  | n + 1 => by
    rw [List.replicate_succ, List.replicate_succ, List.flatten_cons, List.flatten_cons]
    exact r.append (RpA.flat r n)
theorem flat_one {α : Type} (d : α) : ∀ n : Nat, (List.replicate n [d]).flatten = List.replicate n d
  | 0 => rfl
  | n + 1 => by
    rw [List.replicate_succ, List.flatten_cons, flat_one d n, List.replicate_succ]
    rfl
/-- [c] * n -/
theorem wf_rep1 (h : Wr K ta Γ fun x => Wd K tb Γ fun y => ∃ d k, x = .list [d] ∧ y = .int k ∧ -(2 ^ 63) ≤ k ∧ k ≤ sizeLine ∧ ΦO (.lst (List.replicate k.toNat d))) : Wf K (tOp rRep ta tb) Γ ΦO := fun B σ H0 H st Q k =>
  h B σ H0 H st _ fun v d H1 H' s e r q => q B σ H1 H' s _ fun v2 d2 H2 H'' s2 e2 r2 q2 => by
    obtain ⟨d, n, rfl, rfl, hl, hu, q3⟩ := q2
    obtain ⟨a, xs, rfl, h1, h2⟩ := (r.mono e2).lst s2
    cases r2
    have hs : (sizeLine : Int) = 16777216 := by rw [sizeLine_eq]; rfl
    have hxl : xs.length = 1 := h2.length
    refine ⟨a, n, xs, rfl, rfl, h1, hl, by omega, by rw [hxl]; omega, fun p hp => ?_⟩
    have hf := h2.flat n.toNat
    rw [flat_one] at hf
    exact k _ _ _ _ (s2.new hp) (e.trans e2) (s2.frsL hp (hf)) q3
theorem wd_catT (h : Wd K ta Γ fun x => Wd K tb Γ fun y => ∃ xs ys, x = .tuple xs ∧ y = .tuple ys ∧ xs.length + ys.length ≤ sizeLine ∧ Φ (.tuple (xs ++ ys))) : Wd K (tOp (rCatA K) ta tb) Γ Φ := fun B σ H0 H st Q k =>
  h B σ H0 H st _ fun v d H1 H' s e r q => q B σ H1 H' s _ fun v2 d2 H2 H'' s2 e2 r2 q2 => by
    obtain ⟨ds, ds', rfl, rfl, hl, q3⟩ := q2
    have r1 := Rp.mono e2 _ _ r
    cases r1 with
    | @tup a xs _ h1 h2 =>
      have r2' := r2
      cases r2 with
      | @tup a' ys _ h3 h4 =>
        refine ⟨a, a', xs, ys, rfl, rfl, same_t s2.ex (SqT.of h1), same_t s2.ex (SqT.of h3), by rw [h2.length, h4.length]; exact hl, fun z => ?_, fun _ z => ?_, fun _ _ p hp => ?_⟩
        · subst z
          have z : ds = [] := List.length_eq_zero_iff.mp h2.length.symm
          subst z
          exact k _ _ _ _ s2 (e.trans e2) r2' q3
        · subst z
          have z : ds' = [] := List.length_eq_zero_iff.mp h4.length.symm
          subst z
          rw [List.append_nil] at q3
          exact k _ _ _ _ s2 (e.trans e2) (.tup h1 h2) q3
        · obtain ⟨s4, e4⟩ := s2.alloc (o := .tup (xs ++ ys)) hp
          exact k _ _ _ _ s4 ((e.trans e2).trans e4) (.tup upd_same (RpA.mono e4 _ _ (h2.append h4))) q3
def rListQ (K : PySem.W.Frag) : List V → Hp → VK → Prop := fun xs H Q => ∃ p ys, xs = [.ref p] ∧ (SqL K H p ys ∨ SqT K H p ys) ∧ ∀ l, H l = none → Q (.ref l) (upd H l (.lst ys))
theorem wf_list (h : Wr K ta Γ fun d => ∃ ds, (d = .list ds ∨ d = .tuple ds) ∧ ΦO (.lst ds)) : Wf K (tCB (rListQ K) (tCons ta tNil)) Γ ΦO := fun B σ H0 H st Q k =>
  h B σ H0 H st _ fun v d H1 H' s e r q => by
    obtain ⟨ds, hd, q⟩ := q
    obtain ⟨a, xs, rfl, h1, h2⟩ := r.seq s hd
    exact ⟨a, xs, rfl, h1, fun p hp => k _ _ _ _ (s.new hp) e (s.frsL hp (h2)) q⟩
def rTupleQ (K : PySem.W.Frag) : List V → Hp → VK → Prop := fun xs H Q => ∃ p ys, xs = [.ref p] ∧ ((SqL K H p ys ∧ ∀ l, H l = none → Q (.ref l) (upd H l (.tup ys))) ∨ (SqT K H p ys ∧ Q (.ref p) H))
theorem wd_tuple (h : Wr K ta Γ fun d => ∃ ds, (d = .list ds ∨ d = .tuple ds) ∧ Φ (.tuple ds)) : Wd K (tCB (rTupleQ K) (tCons ta tNil)) Γ Φ := fun B σ H0 H st Q k =>
  h B σ H0 H st _ fun v d H1 H' s e r q => by
    obtain ⟨ds, hd, q⟩ := q
    rcases hd with rfl | rfl
    · obtain ⟨a, xs, rfl, h1, h2⟩ := r.lst s
      refine ⟨a, xs, rfl, .inl ⟨SqL.of h1, fun p hp => ?_⟩⟩
      obtain ⟨s4, e4⟩ := s.alloc (o := .tup xs) hp
      exact k _ _ _ _ s4 (e.trans e4) (.tup upd_same (RpA.mono e4 _ _ h2)) q
    · rcases r with r | ⟨_, _, _, z, _⟩
      · cases r with
        | tup h1 h2 => exact ⟨_, _, rfl, .inr ⟨same_t s.ex (SqT.of h1), k _ _ _ _ s e (.tup h1 h2) q⟩⟩
      · cases z
end
end Z
namespace Z
open PySem PySem.Spec PyProof.Rows L2

/-! ### what comes back, the promise of a def -/
inductive Rv where
  | dat (d : PyData) | obj (b : Ob)
def RvOk (K : PySem.W.Frag) (Hc H0 H : Hp) (v : V) : Rv → Prop
  | .dat d => Rp K H0 v d
  | .obj b => ∃ p, v = .ref p ∧ ObAt K H0 H p b ∧ ∀ a, a ∈ fp p b → H0 a = none ∧ Hc a = none
abbrev onD (Φ : PyData → Prop) : Rv → Prop := fun r => ∃ d, r = .dat d ∧ Φ d
abbrev onO (Φ : Ob → Prop) : Rv → Prop := fun r => ∃ b, r = .obj b ∧ Φ b
/-- sm: the first argument is the stream; P: what is asked of the others, what then comes back -/
def spZ (K : PySem.W.Frag) (sm : Bool) (P : List PyData → (Rv → Prop) → Prop) : Sp := fun vs H Q _ =>
  ∃ (H0 : Hp) (s : Addr) (ws : List V) (ds : List PyData) (Φ : Rv → Prop), vs = (if sm = true then .ref s :: ws else ws) ∧ Same H0 H ∧ RpA K H0 ws ds ∧ (sm = true → ObAt K H0 H s .strm ∧ H0 s = none) ∧ P ds Φ ∧
    ∀ v r H0' H', Same H0 H0' → Same H0' H' → (∀ a, H a ≠ none → H0' a = H0 a) → (∀ a o, H a = some o → ¬ (sm = true ∧ a = s) → H' a = some o) → (∀ a, H a ≠ none → H' a ≠ none) →
      (sm = true → ObAt K H0' H' s .strm) → RvOk K H H0' H' v r → Φ r → Q v H'
theorem spZ_len {K : PySem.W.Frag} {sm : Bool} {P : List PyData → (Rv → Prop) → Prop} {n m : Nat} (h : ∀ ds Φ, P ds Φ → ds.length = n) (e : (if sm = true then n + 1 else n) = m) (vs : List V) (H : Hp) (Q : VK) (E : XK) (q : spZ K sm P vs H Q E) : vs.length = m := by
  obtain ⟨H0, s, ws, ds, Φ, rfl, _, r, _, p, _⟩ := q
  have h1 := h ds Φ p
  have h2 := r.length
  subst e
  cases sm with
  | true => rw [if_pos rfl, if_pos rfl, List.length_cons, h2, h1]
  | false => rw [if_neg Bool.false_ne_true, if_neg Bool.false_ne_true, h2, h1]

/-! ### statements -/
def Ws (K : PySem.W.Frag) (t : TS) (Γ : List Sl) (N : List Sl → Prop) (R : List Sl → Rv → Prop) (Bk Ct : List Sl → Prop) : Prop :=
  ∀ B σ H0 H (D : Ends), St8 K B Γ σ H0 H → (∀ Γ' σ' H0' H', St8 K B Γ' σ' H0' H' → Same H0 H0' → N Γ' → D.nx σ' H') →
    (∀ v r Γ' σ' H0' H', St8 K B Γ' σ' H0' H' → Same H0 H0' → RvOk K B.b H0' H' v r → R Γ' r → D.rt v H') →
    (∀ Γ' σ' H0' H', St8 K B Γ' σ' H0' H' → Same H0 H0' → Bk Γ' → D.bk σ' H') → (∀ Γ' σ' H0' H', St8 K B Γ' σ' H0' H' → Same H0 H0' → Ct Γ' → D.ct σ' H') → t D σ H
/-- an assignment's target; the slots that it may touch -/
def Wg (K : PySem.W.Frag) (vs : Nat → Prop) (g : TG) (d : PyData) (Γ : List Sl) (N : List Sl → Prop) : Prop :=
  ∀ B v σ H0 H, St8 K B Γ σ H0 H → Rp K H0 v d → ∀ Q : L2.St → Hp → Prop, (∀ Γ' σ' H0' H', St8 K B Γ' σ' H0' H' → Same H0 H0' → σ'.length = σ.length → (∀ j, ¬ vs j → σ'[j]? = σ[j]? ∧ Γ'[j]? = Γ[j]?) → N Γ' → Q σ' H') → g v σ H Q
def Wgs (K : PySem.W.Frag) (vs : Nat → Prop) (g : TGs) (ds : List PyData) (Γ : List Sl) (N : List Sl → Prop) : Prop :=
  ∀ B ws σ H0 H, St8 K B Γ σ H0 H → RpA K H0 ws ds → ∀ Q : L2.St → Hp → Prop, (∀ Γ' σ' H0' H', St8 K B Γ' σ' H0' H' → Same H0 H0' → σ'.length = σ.length → (∀ j, ¬ vs j → σ'[j]? = σ[j]? ∧ Γ'[j]? = Γ[j]?) → N Γ' → Q σ' H') → g ws σ H Q

section
variable {K : PySem.W.Frag} {Γ : List Sl} {N Bk Ct : List Sl → Prop} {R : List Sl → Rv → Prop} {ta tb te : TE} {tr : TA} {c : TT} {t u : TS} {g : TG}
theorem ws_seq (h : Ws K t Γ (fun Γ' => Ws K u Γ' N R Bk Ct) R Bk Ct) : Ws K (tSeq t u) Γ N R Bk Ct := fun B σ H0 H D st kn kr kb kc =>
  h B σ H0 H { D with nx := u D } st (fun Γ' σ' H0' H' s e q => q B σ' H0' H' D s (fun Γ2 σ2 H2 H2' s2 e2 q2 => kn _ _ _ _ s2 (e.trans e2) q2) (fun v r Γ2 σ2 H2 H2' s2 e2 r2 q2 => kr _ _ _ _ _ _ s2 (e.trans e2) r2 q2)
    (fun Γ2 σ2 H2 H2' s2 e2 q2 => kb _ _ _ _ s2 (e.trans e2) q2) (fun Γ2 σ2 H2 H2' s2 e2 q2 => kc _ _ _ _ s2 (e.trans e2) q2)) kr kb kc
theorem ws_next (q : N Γ) : Ws K tNext Γ N R Bk Ct := fun B σ H0 H D st kn _ _ _ => kn _ _ _ _ st (Same.refl _) q
theorem ws_break (q : Bk Γ) : Ws K tBreak Γ N R Bk Ct := fun B σ H0 H D st _ _ kb _ => kb _ _ _ _ st (Same.refl _) q
theorem ws_cont (q : Ct Γ) : Ws K tCont Γ N R Bk Ct := fun B σ H0 H D st _ _ _ kc => kc _ _ _ _ st (Same.refl _) q
theorem ws_imp {N' : List Sl → Prop} (h : Ws K t Γ N' R Bk Ct) (q : ∀ Γ', N' Γ' → N Γ') : Ws K t Γ N R Bk Ct := fun B σ H0 H D st kn kr kb kc =>
  h B σ H0 H D st (fun Γ' σ' H0' H' s e w => kn Γ' σ' H0' H' s e (q _ w)) kr kb kc
/-- x = e, data -/
theorem ws_set {i : Nat} (h : Wd K te Γ fun d => N (Γ.set i (.dat d))) : Ws K (tAsg te (gName i)) Γ N R Bk Ct := fun B σ H0 H D st kn _ _ _ =>
  h B σ H0 H st _ fun v d H0' H' s e r q => kn _ _ _ _ (s.setD i r) e q
/-- x = e, a new object -/
theorem ws_setF {i : Nat} (h : Wf K te Γ fun b => ∀ p, N (Γ.set i (.own p b))) : Ws K (tAsg te (gName i)) Γ N R Bk Ct := fun B σ H0 H D st kn _ _ _ =>
  h B σ H0 H st _ fun p b H0' H' s e r q => kn _ _ _ _ (s.setO i r) e (q p)
theorem ws_asg (h : Wd K te Γ fun d => Wg K (fun _ => True) g d Γ N) : Ws K (tAsg te g) Γ N R Bk Ct := fun B σ H0 H D st kn _ _ _ =>
  h B σ H0 H st _ fun v d H0' H' s e r q => q B v σ H0' H' s r _ fun Γ' σ' H2 H2' s2 e2 _ _ q2 => kn _ _ _ _ s2 (e.trans e2) q2
theorem ws_ret (h : Wd K te Γ fun d => R Γ (.dat d)) : Ws K (tRet te) Γ N R Bk Ct := fun B σ H0 H D st _ kr _ _ =>
  h B σ H0 H st _ fun v d H0' H' s e r q => kr _ (.dat d) _ _ _ _ s e r q
theorem ws_retF (h : Wf K te Γ fun b => R Γ (.obj b)) : Ws K (tRet te) Γ N R Bk Ct := fun B σ H0 H D st _ kr _ _ =>
  h B σ H0 H st _ fun p b H0' H' s e r q => kr _ (.obj b) _ _ _ _ s e ⟨p, rfl, r.1, fun a ha => ⟨(r.2 a ha).1, (r.2 a ha).2.1⟩⟩ q
/-- return x, an owned list -/
theorem ws_retO {i : Nat} {p : Addr} {ds : List PyData} (h : Γ[i]? = some (.own p (.lst ds))) (q : R Γ (.obj (.lst ds))) : Ws K (tRet (tVar i)) Γ N R Bk Ct := fun B σ H0 H D st _ kr _ _ => by
  obtain ⟨o, e, rfl, ho⟩ := st.sl i _ h
  exact ⟨_, e, kr _ (.obj (.lst ds)) _ _ _ _ st (Same.refl _) ⟨p, rfl, ho, fun a ha => ⟨(st.fr i p _ h a ha).1, (st.fr i p _ h a ha).2.resolve_left fun z => z.2⟩⟩ q⟩
theorem ws_retN (q : R Γ (.dat .none)) : Ws K tRetN Γ N R Bk Ct := fun B σ H0 H D st _ kr _ _ => kr _ (.dat .none) _ _ _ _ st (Same.refl _) Rp.non q
theorem ws_if (h : Wt K c Γ fun b => (b = true → Ws K t Γ N R Bk Ct) ∧ (b = false → Ws K u Γ N R Bk Ct)) : Ws K (tIfS c t u) Γ N R Bk Ct := fun B σ H0 H D st kn kr kb kc =>
  h B σ H0 H st _ fun b H1 H' s e q => by
    cases b with
    | true =>
      rw [if_pos rfl]
      exact q.1 rfl B σ H1 H' D s (fun Γ2 σ2 H2 H2' s2 e2 q2 => kn _ _ _ _ s2 (e.trans e2) q2) (fun v r Γ2 σ2 H2 H2' s2 e2 r2 q2 => kr _ _ _ _ _ _ s2 (e.trans e2) r2 q2)
        (fun Γ2 σ2 H2 H2' s2 e2 q2 => kb _ _ _ _ s2 (e.trans e2) q2) (fun Γ2 σ2 H2 H2' s2 e2 q2 => kc _ _ _ _ s2 (e.trans e2) q2)
    | false =>
      rw [if_neg Bool.false_ne_true]
      exact q.2 rfl B σ H1 H' D s (fun Γ2 σ2 H2 H2' s2 e2 q2 => kn _ _ _ _ s2 (e.trans e2) q2) (fun v r Γ2 σ2 H2 H2' s2 e2 r2 q2 => kr _ _ _ _ _ _ s2 (e.trans e2) r2 q2)
        (fun Γ2 σ2 H2 H2' s2 e2 q2 => kb _ _ _ _ s2 (e.trans e2) q2) (fun Γ2 σ2 H2 H2' s2 e2 q2 => kc _ _ _ _ s2 (e.trans e2) q2)
theorem ws_drop (h : Wd K te Γ fun _ => N Γ) : Ws K (tDrop te) Γ N R Bk Ct := fun B σ H0 H D st kn _ _ _ =>
  h B σ H0 H st _ fun v d H0' H' s e r q => kn _ _ _ _ s e q
/-- a, b = e1, e2: data, data -/
theorem ws_par {i j : Nat} (h : Wd K ta Γ fun d1 => Wd K tb Γ fun d2 => N ((Γ.set i (.dat d1)).set j (.dat d2))) : Ws K (tPar i j (tCons ta (tCons tb tNil))) Γ N R Bk Ct := fun B σ H0 H D st kn _ _ _ =>
  h B σ H0 H st _ fun v d H1 H' s e r q => q B σ H1 H' s _ fun v2 d2 H2 H'' s2 e2 r2 q2 => ⟨v, v2, rfl, kn _ _ _ _ ((s2.setD i (Rp.mono e2 _ _ r)).setD j r2) (e.trans e2) q2⟩
theorem Frs.frz {B : Bs} {σ : L2.St} {H0 H : Hp} {p : Addr} {b : Ob} (f : Frs K B Γ H0 H p b) (st : St8 K B Γ σ H0 H) (i : Nat) : St8 K B (Γ.set i (.own p b)) (σ.set i (some (.ref p))) H0 H := st.setO i f
/-- a thing more that is to stand -/
theorem St8.hold {B : Bs} {σ : L2.St} {H0 H : Hp} {p : Addr} {o : HO} (st : St8 K B Γ σ H0 H) (h : H p = some o) (h0 : H0 p = none) (hb : B.b p = none) (hq : ∀ (i : Nat) q b', Γ[i]? = some (.own q b') → p ∉ fp q b') :
    St8 K ⟨B.b0, upd B.b p o, B.M⟩ Γ σ H0 H := by
  have hm : ¬ B.M p := fun z => st.md p z hb
  have h00 : B.b0 p = none := st.b0.free h0
  refine ⟨st.sl, st.ex, st.sep, fun i q b' hi a ha => ?_, st.b0, fun a ha => ?_, fun a u e1 e2 => ?_, fun a ha => ?_, fun a ha => ?_⟩
  · obtain ⟨f1, f2⟩ := st.fr i q b' hi a ha
    refine ⟨f1, f2.imp id fun z => ?_⟩
    show upd B.b p o a = none
    rw [upd_ne (show a ≠ p from fun z => hq i q b' hi (by rw [← z]; exact ha))]
    exact z
  · by_cases z : a = p
    · subst z; rw [h0, h00]
    · exact st.old a (by have q : upd B.b p o a ≠ none := ha; rw [upd_ne z] at q; exact q)
  · by_cases z : a = p
    · subst z
      have q : upd B.b a o a = some u := e1
      rw [upd_same] at q; cases q; exact h
    · exact st.keep a u (by have q : upd B.b p o a = some u := e1; rw [upd_ne z] at q; exact q) e2
  · by_cases z : a = p
    · subst z; rw [h]; exact fun z => nomatch z
    · exact st.dom a (by have q : upd B.b p o a ≠ none := ha; rw [upd_ne z] at q; exact q)
  · show upd B.b p o a ≠ none
    by_cases z : a = p
    · subst z; rw [upd_same]; exact fun z => nomatch z
    · rw [upd_ne z]; exact st.md a ha
theorem St8.unhold {B : Bs} {σ : L2.St} {H0 H : Hp} {p : Addr} {o : HO} (st : St8 K ⟨B.b0, upd B.b p o, B.M⟩ Γ σ H0 H) (hb : B.b p = none) (md : ∀ a, B.M a → B.b a ≠ none) (b0 : B.b0 p = none) :
    St8 K B Γ σ H0 H ∧ H p = some o ∧ H0 p = none ∧ ∀ (i : Nat) q b', Γ[i]? = some (.own q b') → p ∉ fp q b' := by
  have hm : ¬ B.M p := fun z => md p z hb
  have up : ∀ {a : Addr}, B.b a ≠ none → upd B.b p o a = B.b a := fun {a} h => upd_ne fun z => h (by rw [z]; exact hb)
  have h0 : H0 p = none := (st.old p (show upd B.b p o p ≠ none by rw [upd_same]; exact fun z => nomatch z)).trans b0
  refine ⟨⟨st.sl, st.ex, st.sep, fun i q b' hi a ha => ?_, st.b0, fun a ha => st.old a ?_, fun a u e1 e2 => st.keep a u ?_ e2, fun a ha => st.dom a ?_, md⟩, st.keep p o upd_same hm, h0, fun i q b' hi ha => ?_⟩
  · obtain ⟨f1, f2⟩ := st.fr i q b' hi a ha
    refine ⟨f1, f2.imp id fun z => ?_⟩
    have z : upd B.b p o a = none := z
    by_cases e : a = p
    · subst e; exact hb
    · rw [upd_ne e] at z; exact z
  · show upd B.b p o a ≠ none
    rw [up ha]; exact ha
  · show upd B.b p o a = some u
    rw [up (ne_none_of e1)]; exact e1
  · show upd B.b p o a ≠ none
    rw [up ha]; exact ha
  · obtain ⟨f1, f2⟩ := st.fr i q b' hi p ha
    rcases f2 with z | z
    · exact hm z.1
    · have z : upd B.b p o p = none := z
      rw [upd_same] at z; cases z
theorem Frs.over {B : Bs} {σ : L2.St} {H0 H : Hp} {p : Addr} {ds : List PyData} (f : Frs K B Γ H0 H p (.lst ds)) (st : St8 K B Γ σ H0 H) : ∃ o, St8 K ⟨B.b0, upd B.b p o, B.M⟩ Γ σ H0 H ∧
    ∀ Γ2 σ2 H2 H2', St8 K ⟨B.b0, upd B.b p o, B.M⟩ Γ2 σ2 H2 H2' → Same H0 H2 → St8 K B Γ2 σ2 H2 H2' ∧ Frs K B Γ2 H2 H2' p (.lst ds) := by
  obtain ⟨⟨xs, h1, h2⟩, h3⟩ := f
  obtain ⟨f0, fB, fq⟩ := h3 p (List.mem_singleton.mpr rfl)
  refine ⟨.lst xs, st.hold h1 f0 fB fq, fun Γ2 σ2 H2 H2' s e => ?_⟩
  obtain ⟨s1, s2, s3, s4⟩ := s.unhold fB st.md (st.b0.free f0)
  refine ⟨s1, ⟨xs, s2, RpA.mono e _ _ h2⟩, fun a ha => ?_⟩
  have : a = p := by simpa [fp] using ha
  subst this
  exact ⟨s3, fB, s4⟩
/-- a, b = e1, e2: a new list, data; data, a new object; two new ones -/
theorem ws_parFD {i j : Nat} (h : Wf K ta Γ fun b => ∃ ds, b = .lst ds ∧ Wd K tb Γ fun d2 => ∀ p, N ((Γ.set i (.own p (.lst ds))).set j (.dat d2))) : Ws K (tPar i j (tCons ta (tCons tb tNil))) Γ N R Bk Ct := fun B σ H0 H D st kn _ _ _ =>
  h B σ H0 H st _ fun p b H1 H' s e f q => by
    obtain ⟨ds, rfl, q⟩ := q
    obtain ⟨o, s1, back⟩ := f.over s
    refine q _ σ H1 H' s1 _ fun v2 d2 H2 H'' s2 e2 r2 q2 => ?_
    obtain ⟨s3, f3⟩ := back _ _ _ _ s2 e2
    exact ⟨.ref p, v2, rfl, kn _ _ _ _ ((s3.setO i f3).setD j r2) (e.trans e2) (q2 p)⟩
theorem ws_parDF {i j : Nat} (h : Wd K ta Γ fun d => Wf K tb Γ fun b => ∀ p, N ((Γ.set i (.dat d)).set j (.own p b))) : Ws K (tPar i j (tCons ta (tCons tb tNil))) Γ N R Bk Ct := fun B σ H0 H D st kn _ _ _ =>
  h B σ H0 H st _ fun v d H1 H' s e r q => q B σ H1 H' s _ fun p b H2 H'' s2 e2 f2 q2 => by
    refine ⟨v, .ref p, rfl, kn _ _ _ _ ((s2.setD i (Rp.mono e2 _ _ r)).setO j ⟨f2.1, fun a ha => ⟨(f2.2 a ha).1, (f2.2 a ha).2.1, fun k q b' hk => ?_⟩⟩) (e.trans e2) (q2 p)⟩
    rcases getset hk with ⟨_, z, _⟩ | ⟨_, hk⟩
    · cases z
    · exact (f2.2 a ha).2.2 k q b' hk
theorem ws_parFF {i j : Nat} (h : Wf K ta Γ fun b => ∃ ds, b = .lst ds ∧ Wf K tb Γ fun b2 => ∀ p p2, N ((Γ.set i (.own p (.lst ds))).set j (.own p2 b2))) : Ws K (tPar i j (tCons ta (tCons tb tNil))) Γ N R Bk Ct := fun B σ H0 H D st kn _ _ _ =>
  h B σ H0 H st _ fun p b H1 H' s e f q => by
    obtain ⟨ds, rfl, q⟩ := q
    obtain ⟨o, s1, back⟩ := f.over s
    refine q _ σ H1 H' s1 _ fun p2 b2 H2 H'' s2 e2 f2 q2 => ?_
    obtain ⟨s3, f3⟩ := back _ _ _ _ s2 e2
    refine ⟨.ref p, .ref p2, rfl, kn _ _ _ _ ((s3.setO i f3).setO j ⟨f2.1, fun a ha => ?_⟩) (e.trans e2) (q2 p p2)⟩
    obtain ⟨g1, g2, g3⟩ := f2.2 a ha
    have g2 : upd B.b p o a = none := g2
    have ne : a ≠ p := fun z => by subst z; rw [upd_same] at g2; cases g2
    refine ⟨g1, by rw [upd_ne ne] at g2; exact g2, fun k q b' hk => ?_⟩
    rcases getset hk with ⟨_, z, _⟩ | ⟨_, hk⟩
    · cases z
      exact fun z => ne (by simpa [fp] using z)
    · exact g3 k q b' hk
/-- ghost: an owned list taken as data from here on -/
theorem ws_frz (i : Nat) {p : Addr} {ds : List PyData} (h : Γ[i]? = some (.own p (.lst ds))) (q : Ws K t (Γ.set i (.dat (.list ds))) N R Bk Ct) : Ws K t Γ N R Bk Ct := fun B σ H0 H D st kn kr kb kc => by
  obtain ⟨H0', e, st'⟩ := st.frz h
  exact q B σ H0' H D st' (fun Γ2 σ2 H2 H2' s2 e2 q2 => kn _ _ _ _ s2 (e.trans e2) q2) (fun v r Γ2 σ2 H2 H2' s2 e2 r2 q2 => kr _ _ _ _ _ _ s2 (e.trans e2) r2 q2)
    (fun Γ2 σ2 H2 H2' s2 e2 q2 => kb _ _ _ _ s2 (e.trans e2) q2) (fun Γ2 σ2 H2 H2' s2 e2 q2 => kc _ _ _ _ s2 (e.trans e2) q2)
theorem ws_forget (i : Nat) (q : Ws K t (Γ.set i .un) N R Bk Ct) : Ws K t Γ N R Bk Ct := fun B σ H0 H D st kn kr kb kc => q B σ H0 H D (st.drop i) kn kr kb kc

/-! ### targets -/
theorem wg_name {vs : Nat → Prop} {i : Nat} {d : PyData} (hi : vs i) (q : N (Γ.set i (.dat d))) : Wg K vs (gName i) d Γ N := fun B v σ H0 H st r Q k =>
  k _ _ _ _ (st.setD i r) (Same.refl _) List.length_set (fun j hj => have ne : i ≠ j := fun z => hj (by rw [← z]; exact hi); ⟨List.getElem?_set_ne ne, List.getElem?_set_ne ne⟩) q
theorem wgs_nil {vs : Nat → Prop} {ds : List PyData} (e : ds = []) (q : N Γ) : Wgs K vs gNil ds Γ N := fun B ws σ H0 H st r Q k => by
  subst e
  cases r
  exact ⟨rfl, k _ _ _ _ st (Same.refl _) rfl (fun _ _ => ⟨rfl, rfl⟩) q⟩
theorem wgs_cons {vs : Nat → Prop} {ds : List PyData} {gs : TGs} (h : ∃ d ds', ds = d :: ds' ∧ Wg K vs g d Γ fun Γ2 => Wgs K vs gs ds' Γ2 N) : Wgs K vs (gCons g gs) ds Γ N := fun B ws σ H0 H st r Q k => by
  obtain ⟨d, ds', rfl, h⟩ := h
  cases r with
  | cons r1 r2 =>
    exact ⟨_, _, rfl, h B _ σ H0 H st r1 _ fun Γ2 σ2 H2 H2' s2 e2 l2 j2 q2 => q2 B _ σ2 H2 H2' s2 (RpA.mono e2 _ _ r2) Q fun Γ3 σ3 H3 H3' s3 e3 l3 j3 q3 =>
      k _ _ _ _ s3 (e2.trans e3) (l3.trans l2) (fun j hj => ⟨(j3 j hj).1.trans (j2 j hj).1, (j3 j hj).2.trans (j2 j hj).2⟩) q3⟩
theorem wg_tup {vs : Nat → Prop} {d : PyData} {n : Nat} {gs : TGs} (h : ∃ ds, d = .tuple ds ∧ ds.length = n ∧ Wgs K vs gs ds Γ N) : Wg K vs (gTup K n gs) d Γ N := fun B v σ H0 H st r Q k => by
  obtain ⟨ds, rfl, hl, h⟩ := h
  cases r with
  | tup h1 h2 => exact ⟨_, _, rfl, same_t st.ex (SqT.of h1), h2.length.trans hl, h B _ σ H0 H st h2 Q k⟩

/-! ### loops -/
/-- an iterator that gives these data -/
def WalkD (K : PySem.W.Frag) (J : It) (ds : List PyData) (Hs : Hp) : Prop := ∃ (G : Hp → Prop) (Y : Nat → Hp → V → Hp → Prop), L2.Walk J ds.length G Y ∧ (∀ B Γ σ H0 H, St8 K B Γ σ H0 H → Same Hs H0 → G H) ∧
  ∀ i x B Γ σ H0 H H', St8 K B Γ σ H0 H → Same Hs H0 → i < ds.length → Y i H x H' → ∃ d H0', ds[i]? = some d ∧ St8 K B Γ σ H0' H' ∧ Same H0 H0' ∧ Rp K H0' x d
def Wi (K : PySem.W.Frag) (wi : TI) (Γ : List Sl) (Ψ : List PyData → Prop) : Prop :=
  ∀ B σ H0 H, St8 K B Γ σ H0 H → ∀ Q : It → Hp → Prop, (∀ J ds H0' H', St8 K B Γ σ H0' H' → Same H0 H0' → WalkD K J ds H0' → Ψ ds → Q J H') → wi σ H Q
section
variable {Ψ : List PyData → Prop}
theorem walkD_list {Hs : Hp} {a : Addr} {xs : List V} {ds : List PyData} (h : Hs a = some (.lst xs)) (r : RpA K Hs xs ds) : WalkD K (Itl K a) ds Hs :=
  ⟨_, _, (by rw [← r.length]; exact L2.walk_list (xs := xs)), fun B Γ σ H0 H st e => SqL.of (st.ex _ _ (e _ _ h)), fun i x B Γ σ H0 H H' st e hi y => by
    obtain ⟨rfl, hx⟩ := y
    obtain ⟨d, h1, h2⟩ := r.get hx
    exact ⟨d, H0, h1, st, Same.refl _, Rp.mono e _ _ h2⟩⟩
theorem walkD_tup {Hs : Hp} {a : Addr} {xs : List V} {ds : List PyData} (h : SqT K Hs a xs) (r : RpA K Hs xs ds) : WalkD K (Itt K a) ds Hs :=
  ⟨_, _, (by rw [← r.length]; exact L2.walk_tup (xs := xs)), fun B Γ σ H0 H st e => same_t st.ex (same_t e h), fun i x B Γ σ H0 H H' st e hi y => by
    obtain ⟨rfl, hx⟩ := y
    obtain ⟨d, h1, h2⟩ := r.get hx
    exact ⟨d, H0, h1, st, Same.refl _, Rp.mono e _ _ h2⟩⟩
theorem wi_list {tl : TE} (h : Wd K tl Γ fun d => ∃ ds, d = .list ds ∧ Ψ ds) : Wi K (iList K tl) Γ Ψ := fun B σ H0 H st Q k =>
  h B σ H0 H st _ fun v d H1 H' s e r q => by
    obtain ⟨ds, rfl, q⟩ := q
    cases r with
    | lst h1 h2 => exact ⟨_, rfl, ⟨_, SqL.of (s.ex _ _ h1)⟩, k _ _ _ _ s e (walkD_list h1 h2) q⟩
theorem wi_tup {tl : TE} (h : Wd K tl Γ fun d => ∃ ds, d = .tuple ds ∧ Ψ ds) : Wi K (iTup K tl) Γ Ψ := fun B σ H0 H st Q k =>
  h B σ H0 H st _ fun v d H1 H' s e r q => by
    obtain ⟨ds, rfl, q⟩ := q
    cases r with
    | tup h1 h2 => exact ⟨_, rfl, ⟨_, same_t s.ex (SqT.of h1)⟩, k _ _ _ _ s e (walkD_tup (SqT.of h1) h2) q⟩
def rangeD (lo : Int) (n : Nat) : List PyData := (List.range n).map fun k => .int (lo + (k : Nat))
def rangeC (lo c : Int) (n : Nat) : List PyData := (List.range n).map fun k => .int (lo + (k : Nat) * c)
theorem rangeD_at {lo : Int} {n k : Nat} (h : k < n) : (rangeD lo n)[k]? = some (.int (lo + (k : Nat))) := by simp [rangeD, h]
theorem rangeC_at {lo c : Int} {n k : Nat} (h : k < n) : (rangeC lo c n)[k]? = some (.int (lo + (k : Nat) * c)) := by simp [rangeC, h]
theorem rangeD_len {lo : Int} {n : Nat} : (rangeD lo n).length = n := by simp [rangeD]
theorem rangeC_len {lo c : Int} {n : Nat} : (rangeC lo c n).length = n := by simp [rangeC]
theorem rangeD_get {lo : Int} {n k : Nat} {d : PyData} (h : (rangeD lo n)[k]? = some d) : k < n ∧ d = .int (lo + (k : Nat)) := by
  have hk : k < n := by have := (List.getElem?_eq_some_iff.mp h).1; rw [rangeD_len] at this; exact this
  rw [rangeD_at hk] at h
  exact ⟨hk, (Option.some.inj h).symm⟩
theorem rangeC_get {lo c : Int} {n k : Nat} {d : PyData} (h : (rangeC lo c n)[k]? = some d) : k < n ∧ d = .int (lo + (k : Nat) * c) := by
  have hk : k < n := by have := (List.getElem?_eq_some_iff.mp h).1; rw [rangeC_len] at this; exact this
  rw [rangeC_at hk] at h
  exact ⟨hk, (Option.some.inj h).symm⟩
theorem walkD_range {Hs : Hp} {lo : Int} {n : Nat} : WalkD K (Itr lo n) (rangeD lo n) Hs :=
  ⟨_, _, (by rw [rangeD_len]; exact L2.walk_range), fun _ _ _ _ _ _ _ => trivial, fun i x B Γ σ H0 H H' st e hi y => by
    obtain ⟨rfl, rfl⟩ := y
    rw [rangeD_len] at hi
    exact ⟨_, H0, rangeD_at hi, st, Same.refl _, .int _⟩⟩
theorem walkD_rangeC {Hs : Hp} {lo c : Int} {n : Nat} : WalkD K (Itc lo c n) (rangeC lo c n) Hs :=
  ⟨_, _, (by rw [rangeC_len]; exact L2.walk_rangeC), fun _ _ _ _ _ _ _ => trivial, fun i x B Γ σ H0 H H' st e hi y => by
    obtain ⟨rfl, rfl⟩ := y
    rw [rangeC_len] at hi
    exact ⟨_, H0, rangeC_at hi, st, Same.refl _, .int _⟩⟩
theorem wi_rng1 (h : Wd K ta Γ fun x => ∃ n : Int, x = .int n ∧ -(2 ^ 62) ≤ n ∧ n < 2 ^ 62 ∧ Ψ (rangeD 0 n.toNat)) : Wi K (iRng1 (tCons ta tNil)) Γ Ψ := fun B σ H0 H st Q k =>
  h B σ H0 H st _ fun v d H1 H' s e r q => by
    obtain ⟨n, rfl, h1, h2, q⟩ := q
    cases r
    exact ⟨n, rfl, h1, h2, k _ _ _ _ s e walkD_range q⟩
theorem wi_rng2 (h : Wd K ta Γ fun x => Wd K tb Γ fun y => ∃ m n : Int, x = .int m ∧ y = .int n ∧ (-(2 ^ 62) ≤ m ∧ m < 2 ^ 62 ∧ -(2 ^ 62) ≤ n ∧ n < 2 ^ 62) ∧ Ψ (rangeD m (n - m).toNat)) : Wi K (iRng2 (tCons ta (tCons tb tNil))) Γ Ψ := fun B σ H0 H st Q k =>
  h B σ H0 H st _ fun v d H1 H' s e r q => q B σ H1 H' s _ fun v2 d2 H2 H'' s2 e2 r2 q2 => by
    obtain ⟨m, n, rfl, rfl, hb, q⟩ := q2
    cases r; cases r2
    exact ⟨m, n, rfl, hb, k _ _ _ _ s2 (e.trans e2) walkD_range q⟩
/-- range(a, b, -1) -/
theorem wi_rng3 {tc : TE} (h : Wd K ta Γ fun x => Wd K tb Γ fun y => Wd K tc Γ fun z => ∃ m n : Int, x = .int m ∧ y = .int n ∧ z = .int (-1) ∧ (-(2 ^ 61) ≤ m ∧ m < 2 ^ 61 ∧ -(2 ^ 61) ≤ n ∧ n < 2 ^ 61) ∧ Ψ (rangeC m (-1) (m - n).toNat)) : Wi K (iRng3 (tCons ta (tCons tb (tCons tc tNil)))) Γ Ψ := fun B σ H0 H st Q k =>
  h B σ H0 H st _ fun v d H1 H' s e r q => q B σ H1 H' s _ fun v2 d2 H2 H'' s2 e2 r2 q2 => q2 B σ H2 H'' s2 _ fun v3 d3 H3 H3' s3 e3 r3 q3 => by
    obtain ⟨m, n, rfl, rfl, rfl, hb, q⟩ := q3
    cases r; cases r2; cases r3
    exact ⟨m, n, -1, (m - n).toNat, rfl, RgC.neg (by omega) (by omega) (by omega) (by omega), k _ _ _ _ s3 ((e.trans e2).trans e3) walkD_rangeC q⟩
theorem ws_for {wi : TI} (h : Wi K wi Γ fun ds => ∃ I : Nat → List Sl → Prop, I 0 Γ ∧ (∀ k d Γ', ds[k]? = some d → I k Γ' → Wg K (fun _ => True) g d Γ' fun Γ2 => Ws K t Γ2 (I (k + 1)) R N (I (k + 1))) ∧ ∀ Γ', I ds.length Γ' → N Γ') :
    Ws K (tFor wi g t) Γ N R Bk Ct := fun B σ H0 H D st kn kr _ _ =>
  h B σ H0 H st _ fun J ds Hs H1 s e w q => by
    obtain ⟨I, i0, it, id⟩ := q
    obtain ⟨G, Y, wk, wg, wy⟩ := w
    refine L2.for_it wk (fun k σ' H' => ∃ Γ' H0', St8 K B Γ' σ' H0' H' ∧ Same Hs H0' ∧ I k Γ') ⟨Γ, Hs, s, Same.refl _, i0⟩ (fun k σ' H' _ ⟨Γ', H0', s', e', _⟩ => wg _ _ _ _ _ s' e') (fun k x σ' H' H2 hk ⟨Γ', H0', s', e', ik⟩ y => ?_) (fun σ' H' ⟨Γ', H0', s', e', ik⟩ => kn _ _ _ _ s' (e.trans e') (id _ ik))
    obtain ⟨d, H02, hd, s2, e2, r2⟩ := wy _ _ _ _ _ _ _ _ s' e' hk y
    refine it k d Γ' hd ik B x σ' H02 H2 s2 r2 _ fun Γ3 σ3 H03 H3 s3 e3 _ _ q3 => ?_
    have ee := (e'.trans e2).trans e3
    exact q3 B σ3 H03 H3 _ s3 (fun Γ4 σ4 H04 H4 s4 e4 q4 => ⟨Γ4, H04, s4, ee.trans e4, q4⟩) (fun v r Γ4 σ4 H04 H4 s4 e4 r4 q4 => kr _ _ _ _ _ _ s4 (e.trans (ee.trans e4)) r4 q4)
      (fun Γ4 σ4 H04 H4 s4 e4 q4 => kn _ _ _ _ s4 (e.trans (ee.trans e4)) q4) (fun Γ4 σ4 H04 H4 s4 e4 q4 => ⟨Γ4, H04, s4, ee.trans e4, q4⟩)
end
end
end Z
namespace Z
open PySem PySem.Spec PyProof.Rows L2

section
variable {K : PySem.W.Frag} {Γ : List Sl} {N Bk Ct : List Sl → Prop} {R : List Sl → Rv → Prop} {ta tb te : TE} {tr : TA} {c : TT} {t u : TS} {g : TG} {Φ : PyData → Prop} {ΦO : Ob → Prop}
/-! ### comprehensions -/
theorem St8.turn {B : Bs} {Γ2 : List Sl} {σ σ2 : L2.St} {H0 H : Hp} (st : St8 K B Γ σ H0 H)
    (h : ∀ (i : Nat) s, Γ2[i]? = some s → (Γ[i]? = some s ∧ σ2[i]? = σ[i]?) ∨ ((∀ p b, s ≠ .own p b) ∧ ∃ o, σ2[i]? = some o ∧ SlOk K H0 H o s)) : St8 K B Γ2 σ2 H0 H := by
  have ow : ∀ {i : Nat} {p : Addr} {b : Ob}, Γ2[i]? = some (.own p b) → Γ[i]? = some (.own p b) := fun {i p b} e => by
    rcases h i _ e with z | z
    · exact z.1
    · exact absurd rfl (z.1 p b)
  refine ⟨fun i s e => ?_, st.ex, fun i j p b q b' hij e1 e2 => st.sep i j p b q b' hij (ow e1) (ow e2), fun i p b e => st.fr i p b (ow e), st.b0, st.old, st.keep, st.dom, st.md⟩
  rcases h i s e with ⟨h1, h2⟩ | ⟨_, h2⟩
  · obtain ⟨o, h3, h4⟩ := st.sl i s h1
    exact ⟨o, h2.trans h3, h4⟩
  · exact h2
def wipeG (Γ : List Sl) : List Nat → List Sl
  | [] => Γ
  | v :: vs => (wipeG Γ vs).set v .un
theorem wipeG_len (Γ : List Sl) : ∀ vs, (wipeG Γ vs).length = Γ.length
  | [] => rfl
  | v :: vs => by unfold wipeG; rw [List.length_set, wipeG_len Γ vs]
theorem wipeG_at {Γ : List Sl} {i : Nat} : ∀ {vs : List Nat}, i ∉ vs → (wipeG Γ vs)[i]? = Γ[i]?
  | [], _ => rfl
  | v :: vs, h => by
    unfold wipeG
    rw [List.getElem?_set_ne (fun z => h (by rw [z]; exact List.mem_cons_self)), wipeG_at fun z => h (List.mem_cons_of_mem _ z)]
theorem wipeG_in {Γ : List Sl} {i : Nat} {s : Sl} : ∀ {vs : List Nat}, i ∈ vs → (wipeG Γ vs)[i]? = some s → s = .un
  | v :: vs, h, e => by
    unfold wipeG at e
    rcases getset e with ⟨_, z, _⟩ | ⟨hne, e⟩
    · exact z
    · rcases List.mem_cons.mp h with z | z
      · exact absurd z.symm hne
      · exact wipeG_in z e
theorem wipe_at {σ : L2.St} {i : Nat} : ∀ {vs : List Nat}, i ∉ vs → (wipe σ vs)[i]? = σ[i]?
  | [], _ => rfl
  | v :: vs, h => by
    unfold wipe
    rw [List.getElem?_set_ne (fun z => h (by rw [z]; exact List.mem_cons_self)), wipe_at fun z => h (List.mem_cons_of_mem _ z)]
theorem wipe_in {σ : L2.St} {i : Nat} : ∀ {vs : List Nat}, i ∈ vs → i < σ.length → (wipe σ vs)[i]? = some none
  | v :: vs, h, hl => by
    unfold wipe
    by_cases e : v = i
    · subst e
      rw [List.getElem?_set_self (by rw [wipe_length]; exact hl)]
    · rw [List.getElem?_set_ne e]
      rcases List.mem_cons.mp h with z | z
      · exact absurd z.symm e
      · exact wipe_in z hl
theorem wipe_eq {σ σ2 : L2.St} {vs : List Nat} (hl : σ2.length = σ.length) (h : ∀ j, j ∉ vs → σ2[j]? = σ[j]?) : wipe σ2 vs = wipe σ vs := by
  apply List.ext_getElem?
  intro j
  by_cases hj : j ∈ vs
  · by_cases hlt : j < σ.length
    · rw [wipe_in hj hlt, wipe_in hj (by rw [hl]; exact hlt)]
    · rw [List.getElem?_eq_none (by rw [wipe_length, hl]; omega), List.getElem?_eq_none (by rw [wipe_length]; omega)]
  · rw [wipe_at hj, wipe_at hj, h j hj]
theorem St8.lenG {B : Bs} {σ : L2.St} {H0 H : Hp} (st : St8 K B Γ σ H0 H) : Γ.length ≤ σ.length := by
  by_cases h : Γ.length = 0
  · omega
  · have := st.lt (i := Γ.length - 1) (by omega)
    omega
theorem St8.wiped {B : Bs} {σ : L2.St} {H0 H : Hp} (st : St8 K B Γ σ H0 H) (vs : List Nat) : St8 K B (wipeG Γ vs) (wipe σ vs) H0 H := by
  refine st.turn fun i s e => ?_
  by_cases hi : i ∈ vs
  · have z := wipeG_in hi e
    subst z
    have hl : i < σ.length := by
      have h1 := (List.getElem?_eq_some_iff.mp e).1
      rw [wipeG_len] at h1
      have := st.lenG
      omega
    exact .inr ⟨fun p b z => (by cases z), none, wipe_in hi hl, trivial⟩
  · rw [wipeG_at hi] at e
    exact .inl ⟨e, wipe_at hi⟩
/-- back from a turn: the slots of the block forgotten again -/
theorem St8.rewipe {B : Bs} {Γ2 : List Sl} {σ σ2 : L2.St} {H0 H : Hp} {vs : List Nat} (st : St8 K B Γ2 σ2 H0 H) (hl : Γ.length ≤ σ.length) (hl2 : σ2.length = (wipe σ vs).length) (h : ∀ j, j ∉ vs → σ2[j]? = (wipe σ vs)[j]? ∧ Γ2[j]? = (wipeG Γ vs)[j]?) :
    St8 K B (wipeG Γ vs) (wipe σ vs) H0 H := by
  refine st.turn fun i s e => ?_
  by_cases hi : i ∈ vs
  · have z := wipeG_in hi e
    subst z
    have hl : i < σ.length := by
      have h1 := (List.getElem?_eq_some_iff.mp e).1
      rw [wipeG_len] at h1
      omega
    exact .inr ⟨fun p b z => (by cases z), none, wipe_in hi hl, trivial⟩
  · exact .inl ⟨(h i hi).2.trans e, (h i hi).1.symm⟩
theorem St8.unwipe {B : Bs} {σ : L2.St} {Hs Hh H0 H : Hp} {vs : List Nat} (st0 : St8 K B Γ σ Hs Hh) (st : St8 K B (wipeG Γ vs) (wipe σ vs) H0 H) (e : Same Hs H0) (hv : ∀ i, i ∈ vs → ∀ p b, Γ[i]? ≠ some (.own p b)) : St8 K B Γ σ H0 H := by
  refine st.turn fun i s h => ?_
  by_cases hi : i ∈ vs
  · obtain ⟨o, h1, h2⟩ := st0.sl i s h
    refine .inr ⟨fun p b z => hv i hi p b (by rw [← z]; exact h), o, h1, ?_⟩
    cases s with
    | un => trivial
    | dat d => obtain ⟨v, h3, h4⟩ := h2; exact ⟨v, h3, Rp.mono e _ _ h4⟩
    | own p b => exact absurd h (hv i hi p b)
  · exact .inl ⟨by rw [wipeG_at hi]; exact h, (wipe_at hi).symm⟩
/-- a change apart from all -/
theorem St8.off {B : Bs} {σ : L2.St} {H0 H : Hp} {p : Addr} {o : HO} (st : St8 K B Γ σ H0 H) (h0 : H0 p = none) (hb : B.b p = none) (hq : ∀ (i : Nat) q b', Γ[i]? = some (.own q b') → p ∉ fp q b') : St8 K B Γ σ H0 (upd H p o) := by
  have ne0 : ∀ {a : Addr} {u : HO}, H0 a = some u → a ≠ p := fun {a u} e z => by rw [z, h0] at e; cases e
  refine ⟨fun i s h => ?_, fun a u e => by rw [upd_ne (ne0 e)]; exact st.ex a u e, st.sep, st.fr, st.b0, st.old, fun a u e1 e2 => ?_, fun a ha => ?_, st.md⟩
  · obtain ⟨w, h1, h2⟩ := st.sl i s h
    refine ⟨w, h1, ?_⟩
    cases s with
    | un => trivial
    | dat d => exact h2
    | own q b' => exact ⟨h2.1, h2.2.cong (Same.refl _) fun a ha => upd_ne fun z => hq i q b' h (by rw [← z]; exact ha)⟩
  · rw [upd_ne (fun z => by rw [z, hb] at e1; cases e1)]
    exact st.keep a u e1 e2
  · by_cases z : a = p
    · subst z; rw [upd_same]; exact fun z => nomatch z
    · rw [upd_ne z]; exact st.dom a ha
theorem wf_lc {wi : TI} {tt : TT} {vs : List Nat} (hv : ∀ i, i ∈ vs → ∀ p b, Γ[i]? ≠ some (.own p b))
    (h : Wi K wi Γ fun ds => ds.length ≤ sizeLine ∧ ∃ I : Nat → List PyData → Prop, I 0 [] ∧ (∀ k d acc, ds[k]? = some d → I k acc → Wg K (fun j => j ∈ vs) g d (wipeG Γ vs) fun Γ2 => Wt K tt Γ2 fun b => (b = true → Wd K te Γ2 fun e => I (k + 1) (acc ++ [e])) ∧ (b = false → I (k + 1) acc)) ∧
      ∀ acc, I ds.length acc → ΦO (.lst acc)) : Wf K (tLc wi g tt te vs) Γ ΦO := fun B σ H0 H st Q kk =>
  h B σ H0 H st _ fun J ds Hs H1 s e w q D hD => by
    obtain ⟨hz, I, i0, it, id⟩ := q
    obtain ⟨G, Y, wk, wg, wy⟩ := w
    have sw := (s.new (o := .lst []) hD).wiped vs
    have fr0 := (s.wiped vs).frsL (xs := []) (ds := []) hD .nil
    have hlen := s.lenG
    refine L2.lc_it wk (fun k H' => ∃ H0' acc, St8 K B (wipeG Γ vs) (wipe σ vs) H0' H' ∧ Same Hs H0' ∧ Frs K B (wipeG Γ vs) H0' H' D (.lst acc) ∧ acc.length ≤ k ∧ k ≤ ds.length ∧ I k acc)
      ⟨Hs, [], sw, Same.refl _, fr0, Nat.le_refl _, Nat.zero_le _, i0⟩ (fun k H' _ ⟨H0', acc, s', e', _⟩ => wg _ _ _ _ _ s' e') (fun k x H' H2 hk ⟨H0', acc, s', e', f', hl, _, ik⟩ y => ?_)
      (fun H' ⟨H0', acc, s', e', f', _, _, ik⟩ => ?_)
    · obtain ⟨o, sh, back⟩ := f'.over s'
      obtain ⟨d, H02, hd, s2, e2, r2⟩ := wy _ _ _ _ _ _ _ _ sh e' hk y
      refine it k d acc hd ik _ x (wipe σ vs) H02 H2 s2 r2 _ fun Γ3 σ3 H03 H3 s3 e3 l3 j3 q3 => ⟨?_, ?_⟩
      · have := wipe_eq (vs := vs) (σ := wipe σ vs) (σ2 := σ3) l3 fun j hj => (j3 j hj).1
        rw [this]
        exact wipe_eq (wipe_length _ _) fun j hj => wipe_at hj
      · refine q3 _ σ3 H03 H3 s3 _ fun b H04 H4 s4 e4 q4 => ?_
        cases b with
        | true =>
          rw [if_pos rfl]
          refine q4.1 rfl _ σ3 H04 H4 s4 _ fun v d5 H05 H5 s5 e5 r5 q5 => ?_
          obtain ⟨s6, f6⟩ := back _ _ _ _ s5 (((e2.trans e3).trans e4).trans e5)
          obtain ⟨⟨xs, g1, g2⟩, g3⟩ := f6
          obtain ⟨g4, g5, g6⟩ := g3 D (List.mem_singleton.mpr rfl)
          refine ⟨xs, g1, by rw [g2.length]; omega, H05, acc ++ [d5], (s6.off g4 g5 g6).rewipe hlen l3 j3, ((((e'.trans e2).trans e3).trans e4).trans e5), ⟨⟨xs ++ [v], upd_same, g2.append (.one r5)⟩, fun a ha => ?_⟩, by rw [List.length_append, List.length_singleton]; omega, hk, q5⟩
          have : a = D := by simpa [fp] using ha
          subst this
          refine ⟨g4, g5, fun i q b' hi => ?_⟩
          by_cases hiv : i ∈ vs
          · have z := wipeG_in hiv hi
            cases z
          · exact g6 i q b' ((j3 i hiv).2.trans hi)
        | false =>
          rw [if_neg Bool.false_ne_true]
          obtain ⟨s6, f6⟩ := back _ _ _ _ s4 ((e2.trans e3).trans e4)
          obtain ⟨⟨xs, g1, g2⟩, g3⟩ := f6
          obtain ⟨g4, g5, g6⟩ := g3 D (List.mem_singleton.mpr rfl)
          refine ⟨H04, acc, s6.rewipe hlen l3 j3, (((e'.trans e2).trans e3).trans e4), ⟨⟨xs, g1, g2⟩, fun a ha => ?_⟩, by omega, hk, q4.2 rfl⟩
          have : a = D := by simpa [fp] using ha
          subst this
          refine ⟨g4, g5, fun i q b' hi => ?_⟩
          by_cases hiv : i ∈ vs
          · have z := wipeG_in hiv hi
            cases z
          · exact g6 i q b' ((j3 i hiv).2.trans hi)
    · refine kk D _ _ _ (s.unwipe s' e' hv) (e.trans e') ⟨f'.1, fun a ha => ⟨(f'.2 a ha).1, (f'.2 a ha).2.1, fun i q b' hi => ?_⟩⟩ (id acc ik)
      by_cases hiv : i ∈ vs
      · exact absurd hi (hv i hiv q b')
      · exact (f'.2 a ha).2.2 i q b' (by rw [wipeG_at hiv]; exact hi)

theorem St8.chgL {B : Bs} {σ : L2.St} {H0 H : Hp} {p : Addr} {i : Nat} {ds es : List PyData} {ys : List V} (st : St8 K B Γ σ H0 H) (h : Γ[i]? = some (.own p (.lst ds))) (r : RpA K H0 ys es) :
    St8 K B (Γ.set i (.own p (.lst es))) σ H0 (upd H p (.lst ys)) := st.chg (b' := .lst es) h rfl rfl (fun z => z) ⟨ys, upd_same, r⟩
/-! ### methods of an owned list -/
theorem ws_app {i : Nat} {p : Addr} {ds : List PyData} (hi : Γ[i]? = some (.own p (.lst ds))) (hz : ds.length < sizeLine) (h : Wd K te Γ fun d => N (Γ.set i (.own p (.lst (ds ++ [d]))))) :
    Ws K (tDrop (tBM K "list" rAppend (tVar i) (tCons te tNil))) Γ N R Bk Ct := fun B σ H0 H D st kn _ _ _ => by
  obtain ⟨o, e1, rfl, ho⟩ := st.sl i _ hi
  refine ⟨_, e1, .inl ⟨rfl, ?_⟩, ?_⟩
  · obtain ⟨xs, h1, _⟩ := ho
    exact ⟨xs, SqL.of h1⟩
  · refine h B σ H0 H st _ fun v d H0' H' s e r q => ?_
    obtain ⟨xs, h1, h2⟩ := s.domO hi
    exact ⟨p, xs, v, rfl, rfl, h1, by rw [h2.length]; exact hz, kn _ _ _ _ (s.chgL hi (h2.append (.one r))) e q⟩
theorem ws_ext {i : Nat} {p : Addr} {ds : List PyData} (hi : Γ[i]? = some (.own p (.lst ds))) (h : Wd K te Γ fun d => ∃ es, d = .list es ∧ ds.length + es.length ≤ sizeLine ∧ N (Γ.set i (.own p (.lst (ds ++ es))))) :
    Ws K (tDrop (tBM K "list" rExtend (tVar i) (tCons te tNil))) Γ N R Bk Ct := fun B σ H0 H D st kn _ _ _ => by
  obtain ⟨o, e1, rfl, ho⟩ := st.sl i _ hi
  refine ⟨_, e1, .inl ⟨rfl, ?_⟩, ?_⟩
  · obtain ⟨xs, h1, _⟩ := ho
    exact ⟨xs, SqL.of h1⟩
  · refine h B σ H0 H st _ fun v d H0' H' s e r q => ?_
    obtain ⟨es, rfl, hz, q⟩ := q
    obtain ⟨xs, h1, h2⟩ := s.domO hi
    cases r with
    | lst h3 h4 => exact ⟨p, _, xs, _, rfl, rfl, h1, s.ex _ _ h3, by rw [h2.length, h4.length]; exact hz, kn _ _ _ _ (s.chgL hi (h2.append h4)) e q⟩
/-- xs[j] = e -/
theorem ws_item {i : Nat} {p : Addr} {ds : List PyData} (hi : Γ[i]? = some (.own p (.lst ds))) (h : Wd K te Γ fun d => Wd K tb Γ fun y => ∃ k n, y = .int k ∧ ixN ds.length k = some n ∧ N (Γ.set i (.own p (.lst (ds.set n d))))) :
    Ws K (tAsg te (gSub (tVar i) tb rSetL)) Γ N R Bk Ct := fun B σ H0 H D st kn _ _ _ =>
  h B σ H0 H st _ fun v d H1 H1' s e r q => by
    obtain ⟨o, e1, rfl, ho⟩ := s.sl i _ hi
    refine ⟨_, e1, q B σ H1 H1' s _ fun v2 d2 H2 H2' s2 e2 r2 q2 => ?_⟩
    obtain ⟨k, n, rfl, hn, q2⟩ := q2
    cases r2
    obtain ⟨xs, h1, h2⟩ := s2.domO hi
    exact ⟨p, xs, k, n, rfl, rfl, h1, by rw [h2.length]; exact hn, kn _ _ _ _ (s2.chgL hi (h2.set n (Rp.mono e2 _ _ r))) (e.trans e2) q2⟩
/-- x = xs.pop() -/
theorem ws_pop {i j : Nat} {p : Addr} {ds : List PyData} (hi : Γ[i]? = some (.own p (.lst ds))) (h : ∃ d, ds[ds.length - 1]? = some d ∧ N ((Γ.set i (.own p (.lst ds.dropLast))).set j (.dat d))) :
    Ws K (tAsg (tBM0 K "list" rPop (tVar i)) (gName j)) Γ N R Bk Ct := fun B σ H0 H D st kn _ _ _ => by
  obtain ⟨d, hd, q⟩ := h
  obtain ⟨o, e1, rfl, ho⟩ := st.sl i _ hi
  obtain ⟨xs, h1, h2⟩ := ho
  refine ⟨_, e1, .inl ⟨rfl, xs, SqL.of h1⟩, ?_⟩
  obtain ⟨v, hv, rv⟩ := h2.at hd
  refine ⟨p, xs, v, rfl, rfl, h1, by rw [h2.length]; exact hv, ?_⟩
  exact kn _ _ _ _ ((st.chgL hi h2.dropLast).setD j rv) (Same.refl _) q
theorem seqIx_nat {n k : Nat} (h : k < n) : seqIndex? (k : Int) n = some k := by
  have h0 : ¬ ((k : Int) < 0) := by omega
  unfold seqIndex?
  simp [h0]
  try omega
/-- ys.append(xs.pop(k)) -/
theorem ws_app_pop {i j : Nat} {p q : Addr} {ds es : List PyData} (hi : Γ[i]? = some (.own p (.lst ds))) (hj : Γ[j]? = some (.own q (.lst es))) (hij : i ≠ j) (hz : ds.length < sizeLine) (hz2 : es.length ≤ sizeLine)
    (h : Wd K te Γ fun y => ∃ (k : Nat) (d : PyData), y = .int (k : Int) ∧ es[k]? = some d ∧ N ((Γ.set j (.own q (.lst (es.eraseIdx k)))).set i (.own p (.lst (ds ++ [d]))))) :
    Ws K (tDrop (tBM K "list" rAppend (tVar i) (tCons (tBM K "list" rPopAt (tVar j) (tCons te tNil)) tNil))) Γ N R Bk Ct := fun B σ H0 H D st kn _ _ _ => by
  obtain ⟨o, e1, rfl, ho⟩ := st.sl i _ hi
  obtain ⟨o2, e2, rfl, ho2⟩ := st.sl j _ hj
  refine ⟨_, e1, .inl ⟨rfl, ?_⟩, _, e2, .inl ⟨rfl, ?_⟩, ?_⟩
  · obtain ⟨xs, h1, _⟩ := ho
    exact ⟨xs, SqL.of h1⟩
  · obtain ⟨xs, h1, _⟩ := ho2
    exact ⟨xs, SqL.of h1⟩
  · refine h B σ H0 H st _ fun v d H0' H' s e r qq => ?_
    obtain ⟨k, d, rfl, hd, q4⟩ := qq
    cases r
    obtain ⟨ys, h1, h2⟩ := s.domO hj
    obtain ⟨v, hv, rv⟩ := h2.at hd
    have hk : k < ys.length := (List.getElem?_eq_some_iff.mp hv).1
    have hs : sizeLine = 16777216 := sizeLine_eq
    have hle : ys.length ≤ sizeLine := by rw [h2.length]; exact hz2
    have s2 := s.chgL hj (h2.eraseIdx k)
    have hi2 : (Γ.set j (.own q (.lst (es.eraseIdx k))))[i]? = some (.own p (.lst ds)) := by rw [List.getElem?_set_ne (Ne.symm hij)]; exact hi
    obtain ⟨xs, h3, h4⟩ := s2.domO hi2
    refine ⟨q, ys, (k : Int), k, v, rfl, rfl, h1, by omega, by omega, seqIx_nat hk, hv, p, xs, v, rfl, rfl, h3, by rw [h4.length]; exact hz, ?_⟩
    exact kn _ _ _ _ (s2.chgL hi2 (h4.append (.one rv))) e q4
def rInsertQ : V → List V → Hp → VK → Prop := fun x vs H Q => ∃ (l : Addr) (xs : List V) (i : Int) (y : V), x = .ref l ∧ vs = [.int i, y] ∧ H l = some (.lst xs) ∧ xs.length < sizeLine ∧ 0 ≤ i ∧ i < 2 ^ 63 ∧
    Q .non (upd H l (.lst (xs.take i.toNat ++ [y] ++ xs.drop i.toNat)))
theorem ws_ins {i : Nat} {p : Addr} {ds : List PyData} (hi : Γ[i]? = some (.own p (.lst ds))) (hz : ds.length < sizeLine)
    (h : Wd K ta Γ fun y => Wd K tb Γ fun d => ∃ k : Int, y = .int k ∧ 0 ≤ k ∧ k < 2 ^ 63 ∧ N (Γ.set i (.own p (.lst (ds.take k.toNat ++ [d] ++ ds.drop k.toNat))))) :
    Ws K (tDrop (tBM K "list" rInsertQ (tVar i) (tCons ta (tCons tb tNil)))) Γ N R Bk Ct := fun B σ H0 H D st kn _ _ _ => by
  obtain ⟨o, e1, rfl, ho⟩ := st.sl i _ hi
  refine ⟨_, e1, .inl ⟨rfl, ?_⟩, ?_⟩
  · obtain ⟨xs, h1, _⟩ := ho
    exact ⟨xs, SqL.of h1⟩
  · refine h B σ H0 H st _ fun v d H1 H1' s e r q => q B σ H1 H1' s _ fun v2 d2 H2 H2' s2 e2 r2 q2 => ?_
    obtain ⟨k, rfl, hk0, hk1, q2⟩ := q2
    cases r
    obtain ⟨xs, h1, h2⟩ := s2.domO hi
    exact ⟨p, xs, k, v2, rfl, rfl, h1, by rw [h2.length]; exact hz, hk0, hk1, kn _ _ _ _ (s2.chgL hi (((h2.take _).append (.one r2)).append (h2.drop _))) (e.trans e2) q2⟩
end
end Z
/-! Defs where no container is being shown around: the guards are known to be none. -/
namespace Z
open PySem PySem.Spec PyProof.Rows L2

structure FnG (P : Program) (w : World) (K : PySem.W.Frag) (mg : Str → Option Value) (base : Heap) (CX : CXT) (k : Nat) (f : Addr) (fd : FuncData) (ps : List Str) (sp : Sp) : Prop where
  cnt : ∀ vs H Q E, sp vs H Q E → vs.length = ps.length
  go : ∀ (A : Around) (fr : List Env) (s : Shared) (H : Hp) (ag : Args) (us : List Value) (vs : List V) (Q : VK) (E : XK), A.guards = some [] → Room k A → Env0 P w K mg base A fr s H → BindsTo s fd ag (ps.zip us) → Vals vs us →
    sp vs H Q E → codeAny (model P w) A (.call (.ref f) ag) (CR CX fr P w H s Q E) s
section
variable {P : Program} {w : World} {K : PySem.W.Frag} {mg : Str → Option Value} {base : Heap}
theorem FnG.le {CX : CXT} {j k : Nat} {f : Addr} {fd : FuncData} {ps : List Str} {sp : Sp} (F : FnG P w K mg base CX j f fd ps sp) (h : j ≤ k) : FnG P w K mg base CX k f fd ps sp :=
  ⟨F.cnt, fun A fr s H ag us vs Q E g r => F.go A fr s H ag us vs Q E g (r.mono h)⟩
theorem deeper_guards (A : Around) (env : Env) : (A.deeper env).guards = A.guards := rfl
/-- a def of the text by its body, the guards known -/
theorem okG {CX : CXT} {x qual : Str} {st : Stmt} {f : Addr} {fd : FuncData} {N ps : List Str} {k : Nat} {sp : Sp} (F : Fun K x qual st f fd) (S : FnScope N ps (defScope st)) (cnt : ∀ vs H Q E, sp vs H Q E → vs.length = ps.length)
    (body : ∀ (cdv : Value) (A : Around) (fr : List Env) (s : Shared) (H : Hp) (vs : List V) (Q : VK) (E : XK), (A.deeper (envOfC qual (defScope st) s.heap.objs.size f cdv)).guards = some [] →
      Room k (A.deeper (envOfC qual (defScope st) s.heap.objs.size f cdv)) → sp vs H Q E →
      ∃ t, PSs (cxOf CX P w K mg base N qual (defScope st) f cdv A fr s H E) (defBody st) t ∧ t { nx := fun _ H' => Q .non H', rt := Q } (start N vs) H) : FnG P w K mg base CX (k + 1) f fd ps sp := by
  obtain ⟨oc, od, kV, doc, pm, an, ct0, cty, osl, rfl, lk, hcode⟩ := F.ex
  constructor
  · exact cnt
  intro A fr s H ag us vs Q E gA rA e0 bt rv hsp
  have inS : ∀ b o, base.get? b = some o → s.heap.get? b = some o := fun b o e => (e0.bs b o e).1
  have KS := e0.mod.kin.keeps inS
  have kinds : ∀ y ∈ ps.zip us, (defScope st).names.lookup y.1 = some .local ∨ ((defScope st).names.lookup y.1 = some .cell ∧ ((cellsFrom (s.heap.objs.size + 1) (defScope st).names []).lookup y.1).isSome = true) := by
    intro y hy
    cases S.par y.1 (List.of_mem_zip (show (y.1, y.2) ∈ ps.zip us from hy)).1 with
    | inl z => exact Or.inl z
    | inr z => exact Or.inr ⟨z, PySem.W.cellsFrom_some _ _ _ (Or.inl z)⟩
  refine codeAny_call_function rA.depth (KS _ _ lk) rfl S.co S.gen rfl (PySem.W.codeRec_of KS hcode) (bt _ _ _ _ ?_)
  refine wpAny_newFunctionEnv_cells S.kind kinds fun env hev s1 nx => ?_
  subst hev
  obtain ⟨t, ht, hq⟩ := body ct0 A fr s H vs Q E gA (rA.deeper _) hsp
  have I1 := inv_start (CX := CX) (E := E) S rA.hd e0 (cnt _ _ _ _ hsp) rv nx
  refine ⟨(e0.mod.nolimit.keeps inS).keeps nx.toInCall.keep, codeAny_func (wpAny_mono (ht.run [] s1 _ H _ I1 hq) ?_ fun _ _ z => z)⟩
  intro fl s2 h2
  match fl, h2 with
  | .ret u, ⟨v, _, H', J, r, q⟩ => exact ⟨v, H', J.os, J.bare, J.base, J.hok, r, q⟩
  | .next, ⟨_, H', J, q⟩ => exact ⟨V.non, H', J.os, J.bare, J.base, J.hok, rfl, q⟩
  | .brk, ⟨_, _, _, q⟩ => exact q.elim
  | .cont, ⟨_, _, _, q⟩ => exact q.elim
end
section
variable {X : Cx} {CX : CXT} {k : Nat} {f : Addr} {fd : FuncData} {ps : List Str} {sp : Sp} {E : XK} {x : Str} {p pos : Pos} {e : Expr} {es : List Expr} {t : TA}
theorem runG {pins : List (Addr × Obj)} {σ : L2.St} {H : Hp} {s : Shared} {Q : VK} {us : List Value} {vs : List V} (F : FnG X.prog X.w X.K X.mg X.base CX k f fd ps sp) (hA : X.A.guards = some []) (hr : Room k X.A) (hb : Binds X.K fd ps [])
    (hx : Passes CX X E) (I : Inv X pins σ H s) (r : Vals vs us) (h : sp vs H Q E) : wpAny (model X.prog X.w) X.A (call (.ref f) us) (EP X pins σ Q) X.xe s := by
  have hn : (us ++ ([] : List Value)).length = ps.length := by rw [List.append_nil, ← r.length]; exact F.cnt _ _ _ _ h
  have hbt := hb s us I.kIn hn
  rw [List.append_nil] at hbt
  refine wpAny_call (codeAny_mono (F.go X.A X.stack s H ⟨us, []⟩ us vs Q E hA hr I.env0 hbt r h) ?_)
  intro res s2 h2
  match res, h2 with
  | .error e, h2 => exact hx pins σ H s e s2 I h2
  | .ok (.ret u), h2 => exact I.after h2
theorem pe_callG (F : FnG X.prog X.w X.K X.mg X.base CX k f fd ps sp) (hA : X.A.guards = some []) (hr : Room k X.A) (hg : Gl X x) (hm : X.mg x = some (.ref f)) (hk : PySem.W.keepIn X.K (.ref f) = true) (hb : Binds X.K fd ps []) (hx : Passes CX X E)
    (ha : PA X (e :: es) t) (hdb : (x == ("__debug__" : Str)) = false := by decide) (he : starEach (e :: es) X.env = (false, eval e X.env) :: starEach es X.env := by rfl) (hpl : (backTo pos (starEach es X.env)).any (·.1) = false := by rfl) :
    PE X (.Call (.Name x p) (e :: es) [] pos) (tCall sp [] E t) := by
  constructor
  intro pins s σ H Q I h
  have step : ∀ us s1, AP X pins σ (fun vs H1 => sp (vs ++ []) H1 Q E) us s1 → X.K.In s1.heap ∧ wpAny (model X.prog X.w) X.A (call (.ref f) us) (EP X pins σ Q) X.xe s1 := by
    intro us s1 h1
    obtain ⟨vs, H1, I1, r, q⟩ := h1
    rw [List.append_nil] at q
    exact ⟨I1.kIn, runG F hA hr hb hx I1 r q⟩
  exact wpAny_Call_Name_kw (ld_glob I hg hm (PySem.W.callWith_K (h₀ := X.base) I.ok.mod.kin hk (thn (ha.run pos pins s σ H _ I h) step) he hpl) hdb)
end

/-! ### the end: the law's call -/
theorem lawG {P : Program} {w : World} {K : PySem.W.Frag} {mg mb : Str → Option Value} {CX : CXT} {k : Nat} {fa a : Addr} {fd : FuncData} {x : Str} {sp : Sp} {s : Shared} {vs : List Value} {ns : List Int}
    (KX : K.In s.heap) (hns : s.heap.Ns mainGlobals mg) (hb : s.heap.Ns builtinsNs mb) (hbb : ∀ x : Str, x ≠ "__name__" → mb x = bootBuiltins x) (hlim : s.heap.NoLimit) (hg : s.gens = #[])
    (ha : s.heap.get? a = some { cls := .type "list", data := .seq vs.toArray }) (hi : IntsAre vs ns) (hl : ns.length ≤ sizeLine) (hr : Room k callerA)
    (F : ∀ base : Heap, K.In base → base.Ns mainGlobals mg → FnG P w K mg base CX k fa fd [x] sp) (hbind : ∀ (s : Shared) (u : Value), BindsTo s fd ⟨[u], []⟩ [(x, u)])
    (hsp : ∀ H : Hp, Only H → SqL K H a (ns.map V.int) → sp [.ref a] H (fun v _ => v = .bl true) fun _ _ _ => False)
    (hCX : ∀ H e s', CX [] H s (fun _ _ _ => False) e s' → False) :
    codeAny (model P w) callerA (.call (.ref fa) ⟨[.ref a], []⟩) (fun r s' => r = .ok (.ret (.bool true)) ∧ OldK s.heap s'.heap ∧ s'.os = s.os ∧ AllBare s'.gens) s := by
  have rv := vals_ints hi
  have nv := hi.length
  -- H tells of the script at most
  suffices main : ∀ H : Hp, (∀ b u, H b = some u → b = a ∧ K.lookup a = none ∧ u = .frz { cls := .type "list", data := .seq vs.toArray } (.lst (ns.map V.int))) → SqL K H a (ns.map V.int) →
      codeAny (model P w) callerA (.call (.ref fa) ⟨[.ref a], []⟩) (fun r s' => r = .ok (.ret (.bool true)) ∧ OldK s.heap s'.heap ∧ s'.os = s.os ∧ AllBare s'.gens) s by
    by_cases hk : K.lookup a = none
    · refine main (fun b => if b = a then some (.frz { cls := .type "list", data := .seq vs.toArray } (.lst (ns.map V.int))) else none) (fun b u z => ?_) (.inl (.inr ⟨_, if_pos rfl⟩))
      by_cases q : b = a
      · rw [if_pos q] at z
        cases z
        exact ⟨q, hk, rfl⟩
      · rw [if_neg q] at z
        cases z
    · obtain ⟨o, ho⟩ := Option.ne_none_iff_exists'.mp hk
      have q := KX a o ho
      rw [ha] at q
      cases q
      refine main (fun _ => none) (fun b u z => (by cases z)) (.inr ⟨_, vs.toArray, _, ho, rfl, rfl, rfl, ?_, ?_⟩)
      · rw [List.size_toArray, nv]; exact hl
      · simpa using rv
  intro H hH hS
  have free : ∀ {b : Addr} {o : Obj}, s.heap.get? b = some o → (b = a → K.lookup a ≠ none ∨ ∃ es ep, o.data = .dict es ep) → H b = none := by
    intro b o e z
    cases q : H b with
    | none => rfl
    | some u =>
      obtain ⟨rfl, h2, _⟩ := hH b u q
      rcases z rfl with z | ⟨es, ep, z⟩
      · exact absurd h2 z
      · rw [ha] at e; cases e; cases z
  have nsB : ∀ {b : Addr} {m : Str → Option Value}, s.heap.Ns b m → (hidT s.heap H).Ns b m := by
    intro b m n
    obtain ⟨o, es, ep, e, d, r⟩ := n
    exact ⟨o, es, ep, hidT_get e (free e fun _ => .inr ⟨es, ep, d⟩), d, r⟩
  have KB : K.In (hidT s.heap H) := fun b o e => hidT_get (KX b o e) (free (KX b o e) fun z => .inl (by rw [← z, e]; exact fun z => nomatch z))
  have hok : HOk P w H s.heap := by
    intro b u z
    obtain ⟨rfl, _, rfl⟩ := hH b u z
    exact ⟨ha, by rw [List.length_map]; exact hl, vs, _, rv, ha⟩
  have hO : Only H := by
    intro b
    cases q : H b with
    | none => exact .inl rfl
    | some u =>
      obtain ⟨_, _, rfl⟩ := hH b u q
      exact .inr ⟨_, _, rfl⟩
  obtain ⟨mc, l1, l2⟩ := hlim
  have e0 : Env0 P w K mg (hidT s.heap H) callerA [] s H := by
    refine ⟨rfl, ⟨KB, nsB hns, ⟨mb, nsB hb, hbb⟩, mc, nsB l1, l2⟩, fun b o e => of_hidT e, Nat.le_of_eq (hidT_size _ _), trivial, fun b z => ?_, hok, .of_eq hg⟩
    exact absurd (show b ∈ ([] : List Addr) from z) (by simp)
  refine codeAny_mono ((F _ KB (nsB hns)).go callerA [] s H ⟨[.ref a], []⟩ [.ref a] [.ref a] _ _ rfl hr e0 (hbind s (.ref a)) (.cons rfl .nil) (hsp H hO hS)) ?_
  intro res s2 h2
  match res, h2 with
  | .error e, h2 => exact (hCX H e s2 h2).elim
  | .ok (.ret u), ⟨v, H', os, bare, un, hok', r, q⟩ =>
    have qv : v = .bl true := q
    subst qv
    cases (show u = Value.bool true from r)
    refine ⟨rfl, OldK.of_keep fun b o e => ?_, os, bare⟩
    cases z : H b with
    | none => exact un.keep b o e z (fun y => absurd (show b ∈ ([] : List Addr) from y) (by simp)) (by simp)
    | some y =>
      obtain ⟨_, _, rfl⟩ := hH b y z
      have e1 := (hok b _ z).1
      have e2 := (hok' b _ (un.frzs b _ _ z)).1
      rw [e] at e1
      cases e1
      exact e2
theorem walkG {l : PySem.W.OpenLaw} {n k : Nat} {q : Program} {loose : List Str} {XP : (Str → Option Value) → Heap → Prop} {YP : World → Heap → Prop} {d : DefRec} {K : Params → PySem.W.Frag} {CX : World → CXT} {sp : World → Sp} {x : Str}
    (hn : l.most = some n) (hn2 : n ≤ sizeLine) (hdf : d.params.defaults = []) (hr : Room k callerA) (hY : ∀ (w : World) (h : Heap), YP w h → (K w.params).In h)
    (F : ∀ (w : World) (mg : Str → Option Value) (fa : Addr) (h : Heap), (K w.params).In h → h.Ns mainGlobals mg → mg d.name = some (.ref fa) →
      ∃ fd : FuncData, (∀ (s : Shared) (u : Value), BindsTo s fd ⟨[u], []⟩ [(x, u)]) ∧ ∀ base : Heap, (K w.params).In base → base.Ns mainGlobals mg → FnG l.prog w (K w.params) mg base (CX w) k fa fd [x] (sp w))
    (hsp : ∀ (w : World) (H : Hp) (a : Addr) (ns : List Int), ns.length ≤ n → Only H → SqL (K w.params) H a (ns.map V.int) → sp w [.ref a] H (fun v _ => v = .bl true) fun _ _ _ => False)
    (hCX : ∀ (w : World) (H : Hp) (s : Shared) (e : Value) (s' : Shared), CX w [] H s (fun _ _ _ => False) e s' → False) : PySem.W.WalkO q loose XP YP l.row.toRowW d [] (fun f vs => PySem.call f vs) :=
  Att.attach_call hn hdf fun w s₀ s₁ mg mb fa o pm cd doc a vs ns G Y ho hd hcd hmg hobj hints hlen hg => by
    obtain ⟨fd, hb, hF⟩ := F w mg fa _ (hY w _ Y) G.T.g hmg
    exact lawG (hY w _ Y) G.T.g G.T.b G.T.builtins G.T.nolimit hg hobj hints (Nat.le_trans hlen hn2) hr hF hb (fun H hO hS => hsp w H a ns hlen hO hS) fun H e s' => hCX w H s₁ e s'
end Z
namespace Z
open PySem PySem.Spec PyProof.Rows L2

section
variable {K : PySem.W.Frag} {Γ : List Sl} {N Bk Ct : List Sl → Prop} {R : List Sl → Rv → Prop} {ta tb te : TE} {tr : TA} {t u : TS} {Φ : PyData → Prop} {ΦO : Ob → Prop}
/-! ### the entry of a def -/
theorem slots_init {H0 H : Hp} : ∀ {ws : List V} {ds : List PyData}, RpA K H0 ws ds → ∀ {m m' : Nat}, m ≤ m' → ∀ (i : Nat) s, (ds.map Sl.dat ++ List.replicate m .un)[i]? = some s → ∃ o, (ws.map some ++ List.replicate m' (none : Option V))[i]? = some o ∧ SlOk K H0 H o s
  | _, _, .nil, m, m', hm, i, s, h => by
    simp only [List.map_nil, List.nil_append] at h ⊢
    rw [List.getElem?_replicate] at h
    split at h
    · cases h
      exact ⟨none, by rw [List.getElem?_replicate, if_pos (by omega)], trivial⟩
    · cases h
  | _, _, .cons r t, m, m', hm, 0, s, h => by
    simp only [List.map_cons, List.cons_append, List.getElem?_cons_zero] at h ⊢
    cases h
    exact ⟨_, rfl, _, rfl, r⟩
  | _, _, .cons r t, m, m', hm, i + 1, s, h => by
    simp only [List.map_cons, List.cons_append, List.getElem?_cons_succ] at h ⊢
    exact slots_init t hm i s h
theorem no_own {ds : List PyData} {m i : Nat} {p : Addr} {b : Ob} : (ds.map Sl.dat ++ List.replicate m .un)[i]? ≠ some (.own p b) := by
  intro h
  by_cases hi : i < (ds.map Sl.dat).length
  · rw [List.getElem?_append_left hi, List.getElem?_map] at h
    cases q : ds[i]? with
    | none => rw [q] at h; cases h
    | some d => rw [q] at h; cases h
  · rw [List.getElem?_append_right (by omega), List.getElem?_replicate] at h
    split at h <;> cases h
def Kp (sm : Bool) (s : Addr) (Γ : List Sl) : Prop := sm = true → Γ[0]? = some (.own s .strm)
def Γ0 (sm : Bool) (s : Addr) (ds : List PyData) (m : Nat) : List Sl := (if sm = true then [.own s .strm] else []) ++ (ds.map Sl.dat ++ List.replicate m .un)
theorem enterZ {sm : Bool} {P : List PyData → (Rv → Prop) → Prop} {m : Nat} {Nm : List Str} {vs : List V} {H : Hp} {Q : VK} {E : XK} (h : spZ K sm P vs H Q E)
    (body : ∀ ds Φ s, P ds Φ → (if sm = true then 1 else 0) + ds.length + m ≤ Nm.length ∧ Ws K t (Γ0 sm s ds m) (fun Γ' => Kp sm s Γ' ∧ Φ (.dat .none)) (fun Γ' r => Kp sm s Γ' ∧ Φ r) (fun _ => False) (fun _ => False)) :
    t { nx := fun _ H' => Q .non H', rt := Q } (start Nm vs) H := by
  obtain ⟨H0, s, ws, ds, Φ, rfl, e, r, hs, p, q⟩ := h
  obtain ⟨hm, b⟩ := body ds Φ s p
  have st : St8 K ⟨H0, H, fun a => sm = true ∧ a = s⟩ (Γ0 sm s ds m) (start Nm (if sm = true then .ref s :: ws else ws)) H0 H := by
    refine ⟨fun i sl hi => ?_, e, fun i j p b q b' hij h1 h2 => ?_, fun i p b h1 => ?_, Same.refl _, fun _ _ => rfl, fun a u h1 _ => h1, fun a ha => ha, fun a ha => ?_⟩
    · cases sm with
      | true =>
        cases i with
        | zero => cases hi; exact ⟨some (.ref s), rfl, rfl, (hs rfl).1⟩
        | succ i =>
          have hl := r.length
          have h1 : (ds.map Sl.dat ++ List.replicate m .un)[i]? = some sl := hi
          have hm' : m ≤ Nm.length - (V.ref s :: ws).length := by
            have hm : 1 + ds.length + m ≤ Nm.length := hm
            rw [List.length_cons]; omega
          exact slots_init r hm' i sl h1
      | false =>
        have hl := r.length
        have h1 : (ds.map Sl.dat ++ List.replicate m .un)[i]? = some sl := hi
        have hm' : m ≤ Nm.length - ws.length := by
          have hm : 0 + ds.length + m ≤ Nm.length := hm
          omega
        exact slots_init r hm' i sl h1
    · cases sm with
      | true =>
        cases i with
        | zero =>
          cases j with
          | zero => exact absurd rfl hij
          | succ j => exact absurd h2 no_own
        | succ i => exact absurd h1 no_own
      | false => exact absurd h1 no_own
    · cases sm with
      | true =>
        cases i with
        | zero =>
          cases h1
          intro a ha
          have : a = s := by simpa [fp] using ha
          subst this
          exact ⟨(hs rfl).2, .inl ⟨⟨rfl, rfl⟩, trivial⟩⟩
        | succ i => exact absurd h1 no_own
      | false => exact absurd h1 no_own
    · obtain ⟨h1, rfl⟩ := ha
      exact (hs h1).1.dom _ (List.mem_singleton.mpr rfl)
  have stm : ∀ {Γ' : List Sl} {σ' : L2.St} {H0' H' : Hp}, St8 K ⟨H0, H, fun a => sm = true ∧ a = s⟩ Γ' σ' H0' H' → Kp sm s Γ' → sm = true → ObAt K H0' H' s .strm := fun st' kp h1 => st'.domO (kp h1)
  exact b _ _ H0 H _ st (fun Γ' σ' H0' H' s' e' ⟨kp, hq⟩ => q .non (.dat .none) H0' H' e' s'.ex s'.old (fun a o h1 h2 => s'.keep a o h1 h2) s'.dom (stm s' kp) Rp.non hq)
    (fun v rv Γ' σ' H0' H' s' e' ok ⟨kp, hq⟩ => q v rv H0' H' e' s'.ex s'.old (fun a o h1 h2 => s'.keep a o h1 h2) s'.dom (stm s' kp) ok hq)
    (fun _ _ _ _ _ _ z => z.elim) (fun _ _ _ _ _ _ z => z.elim)

/-! ### calls -/
theorem St8.after {B : Bs} {σ : L2.St} {H0 H H0' H' : Hp} {sm : Bool} {s : Addr} (st : St8 K B Γ σ H0 H) (hi : sm = true → ∃ i : Nat, Γ[i]? = some (.own s .strm)) (e0 : Same H0 H0') (e1 : Same H0' H') (old : ∀ a, H a ≠ none → H0' a = H0 a)
    (keep : ∀ a o, H a = some o → ¬ (sm = true ∧ a = s) → H' a = some o) (dom : ∀ a, H a ≠ none → H' a ≠ none) (hs : sm = true → ObAt K H0' H' s .strm) : St8 K B Γ σ H0' H' := by
  have dm : ∀ {i : Nat} {p : Addr} {b : Ob} {a : Addr}, Γ[i]? = some (.own p b) → a ∈ fp p b → H a ≠ none := fun h ha => (st.domO h).dom _ ha
  refine ⟨fun i sl h => ?_, e1, st.sep, fun i p b h a ha => ?_, st.b0.trans e0, fun a ha => (old a (st.dom a ha)).trans (st.old a ha), fun a o h1 h2 => ?_, fun a ha => dom a (st.dom a ha), st.md⟩
  · obtain ⟨o, h1, h2⟩ := st.sl i sl h
    refine ⟨o, h1, ?_⟩
    cases sl with
    | un => trivial
    | dat d => obtain ⟨v, h3, h4⟩ := h2; exact ⟨v, h3, Rp.mono e0 _ _ h4⟩
    | own p b =>
      refine ⟨h2.1, ?_⟩
      by_cases hsm : sm = true
      · obtain ⟨j, hj⟩ := hi hsm
        by_cases hij : i = j
        · subst hij
          rw [hj] at h
          cases h
          exact hs hsm
        · refine h2.2.cong e0 fun a ha => ?_
          have hd := dm h ha
          have hne : ¬ (sm = true ∧ a = s) := fun z => st.sep i j p b s .strm hij h hj a ha (by rw [z.2]; exact List.mem_singleton.mpr rfl)
          cases q : H a with
          | none => exact absurd q hd
          | some o => exact keep a o q hne
      · refine h2.2.cong e0 fun a ha => ?_
        have hd := dm h ha
        cases q : H a with
        | none => exact absurd q hd
        | some o => exact keep a o q fun z => hsm z.1
  · obtain ⟨f1, f2⟩ := st.fr i p b h a ha
    exact ⟨(old a (dm h ha)).trans f1, f2⟩
  · refine keep a o (st.keep a o h1 h2) fun z => ?_
    obtain ⟨j, hj⟩ := hi z.1
    obtain ⟨_, f2⟩ := st.fr j s .strm hj a (by rw [z.2]; exact List.mem_singleton.mpr rfl)
    rcases f2 with f2 | f2
    · exact h2 f2.1
    · rw [f2] at h1; cases h1
theorem frs_of {B : Bs} {σ : L2.St} {H0 H H0' H' : Hp} {p : Addr} {b : Ob} (st : St8 K B Γ σ H0 H) (ob : ObAt K H0' H' p b) (f : ∀ a, a ∈ fp p b → H0' a = none ∧ H a = none) : Frs K B Γ H0' H' p b :=
  ⟨ob, fun a ha => ⟨(f a ha).1, st.freeB (f a ha).2, fun i q b' hi => st.notO (f a ha).2 hi⟩⟩
section
variable {P : List PyData → (Rv → Prop) → Prop} {E : XK}
theorem wd_call (h : Wa K tr Γ fun ds => P ds (onD Φ)) : Wd K (tCall (spZ K false P) [] E tr) Γ Φ := fun B σ H0 H st Q k =>
  h B σ H0 H st _ fun vs ds H1 H' s e r q => ⟨H1, 0, vs, ds, onD Φ, List.append_nil vs, s.ex, r, fun z => (by cases z), q, fun v rv H2 H2' e0 e1 old kp dm _ ok hq => by
    obtain ⟨d, rfl, hd⟩ := hq
    exact k v d H2 H2' (s.after (sm := false) (s := 0) (fun z => (by cases z)) e0 e1 old kp dm fun z => (by cases z)) (e.trans e0) ok hd⟩
theorem wf_call (h : Wa K tr Γ fun ds => P ds (onO ΦO)) : Wf K (tCall (spZ K false P) [] E tr) Γ ΦO := fun B σ H0 H st Q k =>
  h B σ H0 H st _ fun vs ds H1 H' s e r q => ⟨H1, 0, vs, ds, onO ΦO, List.append_nil vs, s.ex, r, fun z => (by cases z), q, fun v rv H2 H2' e0 e1 old kp dm _ ok hq => by
    obtain ⟨b, rfl, hd⟩ := hq
    obtain ⟨p, rfl, ob, f⟩ := ok
    exact k p b H2 H2' (s.after (sm := false) (s := 0) (fun z => (by cases z)) e0 e1 old kp dm fun z => (by cases z)) (e.trans e0) (frs_of s ob f) hd⟩
theorem wd_callS {i : Nat} {s : Addr} (hi : Γ[i]? = some (.own s .strm)) (h : Wa K tr Γ fun ds => P ds (onD Φ)) : Wd K (tCall (spZ K true P) [] E (tCons (tVar i) tr)) Γ Φ := fun B σ H0 H st Q k => by
  obtain ⟨o, e1, rfl, ho⟩ := st.sl i _ hi
  refine ⟨_, e1, h B σ H0 H st _ fun vs ds H1 H' s1 e r q => ⟨H1, s, vs, ds, onD Φ, List.append_nil _, s1.ex, r, fun z => ⟨s1.domO hi, (s1.fr i s _ hi s (List.mem_singleton.mpr rfl)).1⟩, q, fun v rv H2 H2' e0 e1 old kp dm hs ok hq => ?_⟩⟩
  obtain ⟨d, rfl, hd⟩ := hq
  exact k v d H2 H2' (s1.after (sm := true) (s := s) (fun _ => ⟨i, hi⟩) e0 e1 old kp dm hs) (e.trans e0) ok hd
theorem wf_callS {i : Nat} {s : Addr} (hi : Γ[i]? = some (.own s .strm)) (h : Wa K tr Γ fun ds => P ds (onO ΦO)) : Wf K (tCall (spZ K true P) [] E (tCons (tVar i) tr)) Γ ΦO := fun B σ H0 H st Q k => by
  obtain ⟨o, e1, rfl, ho⟩ := st.sl i _ hi
  refine ⟨_, e1, h B σ H0 H st _ fun vs ds H1 H' s1 e r q => ⟨H1, s, vs, ds, onO ΦO, List.append_nil _, s1.ex, r, fun z => ⟨s1.domO hi, (s1.fr i s _ hi s (List.mem_singleton.mpr rfl)).1⟩, q, fun v rv H2 H2' e0 e1 old kp dm hs ok hq => ?_⟩⟩
  obtain ⟨b, rfl, hd⟩ := hq
  obtain ⟨p, rfl, ob, f⟩ := ok
  exact k p b H2 H2' (s1.after (sm := true) (s := s) (fun _ => ⟨i, hi⟩) e0 e1 old kp dm hs) (e.trans e0) (frs_of s1 ob f) hd
end

/-! ### built-ins -/
def rAbsQ : List V → Hp → VK → Prop := fun xs H Q => ∃ i, xs = [.int i] ∧ Q (.int (if i < 0 then -i else i)) H
def rIntQ : List V → Hp → VK → Prop := fun xs H Q => (∃ i, xs = [.int i] ∧ Q (.int i) H) ∨ ∃ k, xs = [.bl k] ∧ Q (.int (if k then 1 else 0)) H
def rMax2Q : List V → Hp → VK → Prop := fun xs H Q => ∃ i j, xs = [.int i, .int j] ∧ Q (.int (if j > i then j else i)) H
def rMin2Q : List V → Hp → VK → Prop := fun xs H Q => ∃ i j, xs = [.int i, .int j] ∧ Q (.int (if j < i then j else i)) H
theorem wd_abs (h : Wd K ta Γ fun x => ∃ i, x = .int i ∧ Φ (.int (if i < 0 then -i else i))) : Wd K (tCB rAbsQ (tCons ta tNil)) Γ Φ := fun B σ H0 H st Q k =>
  h B σ H0 H st _ fun v d H1 H' s e r q => by
    obtain ⟨i, rfl, q⟩ := q
    cases r
    exact ⟨i, rfl, k _ _ _ _ s e (.int _) q⟩
theorem wd_toInt (h : Wd K ta Γ fun x => (∃ i, x = .int i ∧ Φ (.int i)) ∨ ∃ b, x = .bool b ∧ Φ (.int (if b then 1 else 0))) : Wd K (tCB rIntQ (tCons ta tNil)) Γ Φ := fun B σ H0 H st Q k =>
  h B σ H0 H st _ fun v d H1 H' s e r q => by
    rcases q with ⟨i, rfl, q⟩ | ⟨i, rfl, q⟩
    · cases r
      exact .inl ⟨i, rfl, k _ _ _ _ s e (.int _) q⟩
    · cases r
      exact .inr ⟨i, rfl, k _ _ _ _ s e (.int _) q⟩
theorem wd_max2 (h : Wd K ta Γ fun x => Wd K tb Γ fun y => ∃ i j, x = .int i ∧ y = .int j ∧ Φ (.int (if j > i then j else i))) : Wd K (tCB rMax2Q (tCons ta (tCons tb tNil))) Γ Φ := fun B σ H0 H st Q k =>
  h B σ H0 H st _ fun v d H1 H' s e r q => q B σ H1 H' s _ fun v2 d2 H2 H'' s2 e2 r2 q2 => by
    obtain ⟨i, j, rfl, rfl, q⟩ := q2
    cases r; cases r2
    exact ⟨i, j, rfl, k _ _ _ _ s2 (e.trans e2) (.int _) q⟩
theorem wd_min2 (h : Wd K ta Γ fun x => Wd K tb Γ fun y => ∃ i j, x = .int i ∧ y = .int j ∧ Φ (.int (if j < i then j else i))) : Wd K (tCB rMin2Q (tCons ta (tCons tb tNil))) Γ Φ := fun B σ H0 H st Q k =>
  h B σ H0 H st _ fun v d H1 H' s e r q => q B σ H1 H' s _ fun v2 d2 H2 H'' s2 e2 r2 q2 => by
    obtain ⟨i, j, rfl, rfl, q⟩ := q2
    cases r; cases r2
    exact ⟨i, j, rfl, k _ _ _ _ s2 (e.trans e2) (.int _) q⟩
theorem wd_sum (h : Wr K ta Γ fun d => ∃ ns : List Int, d = .list (ns.map .int) ∧ Φ (.int ns.sum)) : Wd K (tCB (rSum K) (tCons ta tNil)) Γ Φ := fun B σ H0 H st Q k =>
  h B σ H0 H st _ fun v d H1 H' s e r q => by
    obtain ⟨ns, rfl, q⟩ := q
    obtain ⟨a, xs, rfl, h1, h2⟩ := r.lst s
    rw [h2.ints_inv] at h1
    exact ⟨a, ns, rfl, SqL.of h1, k _ _ _ _ s e (.int _) q⟩
theorem wd_all (h : Wr K ta Γ fun d => ∃ bs : List Bool, d = .list (bs.map .bool) ∧ Φ (.bool (bs.all id))) : Wd K (tCB (rAll K) (tCons ta tNil)) Γ Φ := fun B σ H0 H st Q k =>
  h B σ H0 H st _ fun v d H1 H' s e r q => by
    obtain ⟨bs, rfl, q⟩ := q
    obtain ⟨a, xs, rfl, h1, h2⟩ := r.lst s
    rw [h2.bools_inv] at h1
    exact ⟨a, bs, rfl, SqL.of h1, k _ _ _ _ s e (.bl _) q⟩
theorem wd_any (h : Wr K ta Γ fun d => ∃ bs : List Bool, d = .list (bs.map .bool) ∧ Φ (.bool (bs.any id))) : Wd K (tCB (rAny K) (tCons ta tNil)) Γ Φ := fun B σ H0 H st Q k =>
  h B σ H0 H st _ fun v d H1 H' s e r q => by
    obtain ⟨bs, rfl, q⟩ := q
    obtain ⟨a, xs, rfl, h1, h2⟩ := r.lst s
    rw [h2.bools_inv] at h1
    exact ⟨a, bs, rfl, SqL.of h1, k _ _ _ _ s e (.bl _) q⟩

/-! ### isinstance -/
def tyName : PyData → String
  | .none => "NoneType" | .bool _ => "bool" | .int _ => "int" | .str _ => "str" | .list _ => "list" | .tuple _ => "tuple" | .dict _ => "dict"
theorem tyX_of {H0 H : Hp} {v : V} {d : PyData} (e : Same H0 H) (r : Rp K H0 v d) : TyX K H v (.type (tyName d)) := by
  cases r with
  | non => exact .base .non
  | bl b => exact .base (.bl b)
  | int i => exact .base (.int i)
  | str x => exact .base (.str x)
  | lst h1 h2 => exact .base (.lst (e _ _ h1))
  | tup h1 h2 =>
    exact .base (.tup (e _ _ h1))
theorem wd_isi {n : String} (h : Wd K ta Γ fun x => ∃ b, kitB (tyName x) n = some b ∧ Φ (.bool b)) : Wd K (tCB (rIsi K) (tCons ta (tCons (tC (.ty n)) tNil))) Γ Φ := fun B σ H0 H st Q k =>
  h B σ H0 H st _ fun v d H1 H' s e r q => by
    obtain ⟨b, hb, q⟩ := q
    exact ⟨v, .ty n, .type (tyName d), .type n, b, rfl, .ty n, tyX_of s.ex r, kit_ty hb, k _ _ _ _ s e (.bl _) q⟩
def isIntD : PyData → Bool | .int _ => true | .bool _ => true | _ => false
def isBoolD : PyData → Bool | .bool _ => true | _ => false
def isStrD : PyData → Bool | .str _ => true | _ => false
def isTupD : PyData → Bool | .tuple _ => true | _ => false
def isListD : PyData → Bool | .list _ => true | _ => false
theorem kit_int : ∀ d : PyData, kitB (tyName d) "int" = some (isIntD d)
  | .none => (by decide +kernel : kitB "NoneType" "int" = some false)
  | .bool _ => (by decide +kernel : kitB "bool" "int" = some true)
  | .int _ => (by decide +kernel : kitB "int" "int" = some true)
  | .str _ => (by decide +kernel : kitB "str" "int" = some false)
  | .list _ => (by decide +kernel : kitB "list" "int" = some false)
  | .tuple _ => (by decide +kernel : kitB "tuple" "int" = some false)
  | .dict _ => (by decide +kernel : kitB "dict" "int" = some false)
theorem kit_bool : ∀ d : PyData, kitB (tyName d) "bool" = some (isBoolD d)
  | .none => (by decide +kernel : kitB "NoneType" "bool" = some false)
  | .bool _ => (by decide +kernel : kitB "bool" "bool" = some true)
  | .int _ => (by decide +kernel : kitB "int" "bool" = some false)
  | .str _ => (by decide +kernel : kitB "str" "bool" = some false)
  | .list _ => (by decide +kernel : kitB "list" "bool" = some false)
  | .tuple _ => (by decide +kernel : kitB "tuple" "bool" = some false)
  | .dict _ => (by decide +kernel : kitB "dict" "bool" = some false)
theorem kit_str : ∀ d : PyData, kitB (tyName d) "str" = some (isStrD d)
  | .none => (by decide +kernel : kitB "NoneType" "str" = some false)
  | .bool _ => (by decide +kernel : kitB "bool" "str" = some false)
  | .int _ => (by decide +kernel : kitB "int" "str" = some false)
  | .str _ => (by decide +kernel : kitB "str" "str" = some true)
  | .list _ => (by decide +kernel : kitB "list" "str" = some false)
  | .tuple _ => (by decide +kernel : kitB "tuple" "str" = some false)
  | .dict _ => (by decide +kernel : kitB "dict" "str" = some false)
theorem kit_tup : ∀ d : PyData, kitB (tyName d) "tuple" = some (isTupD d)
  | .none => (by decide +kernel : kitB "NoneType" "tuple" = some false)
  | .bool _ => (by decide +kernel : kitB "bool" "tuple" = some false)
  | .int _ => (by decide +kernel : kitB "int" "tuple" = some false)
  | .str _ => (by decide +kernel : kitB "str" "tuple" = some false)
  | .list _ => (by decide +kernel : kitB "list" "tuple" = some false)
  | .tuple _ => (by decide +kernel : kitB "tuple" "tuple" = some true)
  | .dict _ => (by decide +kernel : kitB "dict" "tuple" = some false)
theorem kit_list : ∀ d : PyData, kitB (tyName d) "list" = some (isListD d)
  | .none => (by decide +kernel : kitB "NoneType" "list" = some false)
  | .bool _ => (by decide +kernel : kitB "bool" "list" = some false)
  | .int _ => (by decide +kernel : kitB "int" "list" = some false)
  | .str _ => (by decide +kernel : kitB "str" "list" = some false)
  | .list _ => (by decide +kernel : kitB "list" "list" = some true)
  | .tuple _ => (by decide +kernel : kitB "tuple" "list" = some false)
  | .dict _ => (by decide +kernel : kitB "dict" "list" = some false)
theorem wd_isInt (h : Wd K ta Γ fun x => Φ (.bool (isIntD x))) : Wd K (tCB (rIsi K) (tCons ta (tCons (tC (.ty "int")) tNil))) Γ Φ := wd_isi (h.imp fun d q => ⟨_, kit_int d, q⟩)
theorem wd_isBool (h : Wd K ta Γ fun x => Φ (.bool (isBoolD x))) : Wd K (tCB (rIsi K) (tCons ta (tCons (tC (.ty "bool")) tNil))) Γ Φ := wd_isi (h.imp fun d q => ⟨_, kit_bool d, q⟩)
theorem wd_isStr (h : Wd K ta Γ fun x => Φ (.bool (isStrD x))) : Wd K (tCB (rIsi K) (tCons ta (tCons (tC (.ty "str")) tNil))) Γ Φ := wd_isi (h.imp fun d q => ⟨_, kit_str d, q⟩)
theorem wd_isTup (h : Wd K ta Γ fun x => Φ (.bool (isTupD x))) : Wd K (tCB (rIsi K) (tCons ta (tCons (tC (.ty "tuple")) tNil))) Γ Φ := wd_isi (h.imp fun d q => ⟨_, kit_tup d, q⟩)
end

/-! ### repr of data -/
def rReprD (K : PySem.W.Frag) : List V → Hp → VK → Prop := fun xs H Q => ∃ x d, xs = [x] ∧ Dp K H x d ∧ d.showable = true ∧ d.hasDict = false ∧ d.depth ≤ 60 ∧ d.shown.length ≤ sizeLine ∧ Q (.str d.shown) H
theorem call_reprD {X : Cx} (hA : X.A.guards = some []) (hu : X.A.units + 70 < cLine) : CallR X (.builtin "repr") (rReprD X.K) := by
  intro pins s σ H xs us Q I r h
  obtain ⟨x, d, rfl, hd, h1, h2, h3, h4, q⟩ := h
  obtain ⟨u, rfl, ru⟩ := vals1 r
  obtain ⟨as, rd⟩ := Dp.reads I d x u hd ru
  have byRef : ∀ a, u = .ref a → wpAny (model X.prog X.w) X.A (call (.builtin "repr") [u]) (EP X pins σ Q) X.xe s := by
    rintro a rfl
    exact repr_of_reads' rd h1 (fun z => by rw [h2] at z; cases z) hA (by omega) (fun _ _ e => e) (fun h' u tk hk => ⟨.str d.shown, H, I.kept hk, ⟨_, rfl⟩, q⟩) h4
  cases hd with
  | non =>
    cases (show u = Value.none from ru)
    exact PySem.P.repr_of_none ⟨.str _, H, I.tok _, ⟨_, rfl⟩, q⟩
  | bl b =>
    cases (show u = Value.bool b from ru)
    exact PySem.P.repr_of_bool ⟨.str _, H, I.tok _, ⟨_, rfl⟩, q⟩
  | int i =>
    obtain ⟨t, rfl⟩ := ru
    have hz : i.natAbs.log2 < 1920 := of_decide_eq_true h1
    exact PySem.P.repr_of_int hz ⟨.str _, H, I.tok _, ⟨_, rfl⟩, q⟩
  | str y =>
    obtain ⟨t, rfl⟩ := ru
    exact PySem.P.repr_of_str ⟨.str _, H, I.tok _, ⟨_, rfl⟩, q⟩ h4
  | lst _ _ => exact byRef _ ru
  | tup _ _ => exact byRef _ ru
section
variable {K : PySem.W.Frag} {Γ : List Sl} {ta : TE} {Φ : PyData → Prop}
theorem wd_repr (h : Wd K ta Γ fun d => d.showable = true ∧ d.hasDict = false ∧ d.depth ≤ 60 ∧ d.shown.length ≤ sizeLine ∧ Φ (.str d.shown)) : Wd K (tCB (rReprD K) (tCons ta tNil)) Γ Φ := fun B σ H0 H st Q k =>
  h B σ H0 H st _ fun v d H1 H' s e r q => ⟨v, d, rfl, Rp.dp _ _ (Rp.mono s.ex _ _ r), q.1, q.2.1, q.2.2.1, q.2.2.2.1, k _ _ _ _ s e (.str _) q.2.2.2.2⟩
end
end Z
namespace Z
open PySem PySem.Spec PyProof.Rows L2

abbrev rAddI : R2 := rI0 fun i j => .int (i + j)
abbrev rSubI : R2 := rI0 fun i j => .int (i - j)
abbrev rMulI : R2 := rI CMul fun i j => .int (i * j)
abbrev rModI : R2 := rI (fun _ j => 0 < j) fun i j => .int (i % j)
abbrev rDivI : R2 := rI CDiv fun i j => .int (i / j)
abbrev rPowI : R2 := rI CPow fun i j => .int (i ^ j.toNat)
abbrev rLtI : R2 := rI0 fun i j => .bl (decide (i < j))
abbrev rLeI : R2 := rI0 fun i j => .bl (decide (i ≤ j))
abbrev rGtI : R2 := rI0 fun i j => .bl (decide (j < i))
abbrev rGeI : R2 := rI0 fun i j => .bl (decide (j ≤ i))
abbrev rNegI : V → Hp → VK → Prop := rU fun i => .int (-i)
abbrev rIsN : R2 := fun x y H Q => y = .non ∧ Q (.bl (decide (x = .non))) H
abbrev rNotN : R2 := fun x y H Q => y = .non ∧ Q (.bl (!decide (x = .non))) H
def tTruQ (K : PySem.W.Frag) (ta : TE) : TT := fun σ H Q => ta σ H fun x H' => ∃ k, TruV K x H' k ∧ Q k H'

/-! ### defs of the text, and what they promise -/
section
variable {P : Program} {w : World} {K : PySem.W.Frag} {mg : Str → Option Value} {base : Heap}
def DefZ (K : PySem.W.Frag) (mg : Str → Option Value) (x : Str) (ps : List Str) (st : Stmt) : Prop := ∃ f fd, Fun K x x st f fd ∧ mg x = some (.ref f) ∧ Binds K fd ps []
def CalZ (P : Program) (w : World) (K : PySem.W.Frag) (mg : Str → Option Value) (base : Heap) (k : Nat) (x : Str) (ps : List Str) (sm : Bool) (Pf : List PyData → (Rv → Prop) → Prop) : Prop :=
  ∃ f fd, FnG P w K mg base L2.CX0 k f fd ps (spZ K sm Pf) ∧ mg x = some (.ref f) ∧ PySem.W.keepIn K (.ref f) = true ∧ Binds K fd ps []
theorem calZ_of {x : Str} {ps N : List Str} {st : Stmt} {k n : Nat} {sm : Bool} {Pf : List PyData → (Rv → Prop) → Prop} (D : DefZ K mg x ps st) (S : FnScope N ps (defScope st)) (len : ∀ ds Φ, Pf ds Φ → ds.length = n) (hn : (if sm = true then n + 1 else n) = ps.length)
    (body : ∀ (f : Addr) (cdv : Value) (A : Around) (fr : List Env) (s : Shared) (H : Hp) (vs : List V) (Q : VK) (E : XK), (A.deeper (envOfC x (defScope st) s.heap.objs.size f cdv)).guards = some [] → Room k (A.deeper (envOfC x (defScope st) s.heap.objs.size f cdv)) →
      spZ K sm Pf vs H Q E → ∃ t, PSs (cxOf L2.CX0 P w K mg base N x (defScope st) f cdv A fr s H E) (defBody st) t ∧ t { nx := fun _ H' => Q .non H', rt := Q } (start N vs) H) : CalZ P w K mg base (k + 1) x ps sm Pf := by
  obtain ⟨f, fd, F, hm, hb⟩ := D
  exact ⟨f, fd, okG F S (fun vs H Q E => spZ_len len hn vs H Q E) (fun cdv A fr s H vs Q E => body f cdv A fr s H vs Q E), hm, F.kp, hb⟩
theorem hu64_of {A : Around} {k : Nat} (hr : Room k A) : A.units + 64 < cLine := by have := hr.un; omega
theorem hu70_of {A : Around} {k : Nat} (hr : Room k A) : A.units + 70 < cLine := by have := hr.un; omega
end
section
variable {X : Cx} {k : Nat} {x : Str} {ps : List Str} {sm : Bool} {Pf : List PyData → (Rv → Prop) → Prop} {p pos : Pos} {e : Expr} {es : List Expr} {t : TA}
theorem pe_calZ (c : CalZ X.prog X.w X.K X.mg X.base k x ps sm Pf) (hA : X.A.guards = some []) (hr : Room k X.A) (hg : Gl X x) (ha : PA X (e :: es) t) (hdb : (x == ("__debug__" : Str)) = false := by decide)
    (he : starEach (e :: es) X.env = (false, eval e X.env) :: starEach es X.env := by rfl) (hpl : (backTo pos (starEach es X.env)).any (·.1) = false := by rfl) : PE X (.Call (.Name x p) (e :: es) [] pos) (tCall (spZ X.K sm Pf) [] E0 t) := by
  obtain ⟨f, fd, F, hm, hk, hb⟩ := c
  exact pe_callG F hA hr hg hm hk hb pass0 ha hdb he hpl
theorem mt_insertQ : MtR X "list.insert" rInsertQ := mt_insert
end
end Z
namespace Z
open PySem PySem.Spec PyProof.Rows L2
open AutoSeq1 (wpAny_loadPart')

/-! ### enumerate over a list or a tuple -/
theorem meets_enumT (t : Addr) (ws : Array Value) (n : Nat) (dd : Option Addr) (sl : Array (Option Value)) :
    Meets (Builtin.«enumerate.__new__» ⟨[.type "enumerate", .ref t], []⟩) (fun _ R s => s.heap.get? t = some { cls := .type "tuple", dict := dd, data := .seq ws n, slots := sl } ∧
      R (.ok (.ret (.ref (s.heap.push { cls := .type "tuple_iterator", data := .fields #[.ref t, .int 0 0] }).objs.size)))
        { s with heap := (s.heap.push { cls := .type "tuple_iterator", data := .fields #[.ref t, .int 0 0] }).push { cls := .type "enumerate", data := .fields #[.none, .bool false, .ref s.heap.objs.size, rawInt 0, .none, .none] } }) :=
  .of_wp fun prog w A R s hh => by
    obtain ⟨hp, gs, dr, tk, os⟩ := s
    obtain ⟨ht, h⟩ := hh
    have hsub := sub_enumerate
    have hT : Heap.IsTuple (Shared.heap ⟨hp, gs, dr, tk, os⟩) t ws := ⟨_, ht, rfl, n, rfl⟩
    wp_walk using wpAny_loadPart' ht
    refine wpAny_stack_any fun _ => wpAny_pure ?_
    split
    · rename_i c _ _ _ _ _
      cases (c == Value.type "enumerate") <;> (wp_walk using wpAny_loadPart' ht, wpAny_pyIter_tuple hT) <;> exact ⟨_, rfl, h⟩
    · wp_walk using wpAny_loadPart' ht, wpAny_pyIter_tuple hT
      exact ⟨_, rfl, h⟩
section
variable {prog : Program} {w : World} {A : Around} {E : Value → Shared → Prop} {s : Shared}
theorem call_enumT {t : Addr} {ws : Array Value} {Q : Value → Shared → Prop} (hT : s.heap.IsTuple t ws)
    (k : ∀ g, IsEnum g (s.heap.objs.size + 1) s.heap.objs.size 0 .none → g.IsTupleIter s.heap.objs.size t 0 → (∀ b o, s.heap.get? b = some o → g.get? b = some o) → Q (.ref (s.heap.objs.size + 1)) { s with heap := g }) :
    wpAny (model prog w) A (call (.type "enumerate") [.ref t]) Q E s := by
  obtain ⟨⟨cl, dd, da, sl⟩, h1, h2, n, h3⟩ := hT
  cases (show cl = .type "tuple" from h2)
  cases (show da = .seq ws n from h3)
  have z : (s.heap.push { cls := .type "tuple_iterator", data := .fields #[.ref t, .int 0 0] }).objs.size = s.heap.objs.size + 1 := Heap.size_push ..
  refine callType_new F.called_enumerate (by decide) (F.typeCall_enumerate_1 _) (F.newCall_enumerate_1 _) (fun x => F.args_object_init_2 x _) F.entry_enumerate_new (meets_enumT t ws n dd sl) ⟨h1, ?_⟩
  show _ ∧ _
  rw [z]
  have en : IsEnum ((s.heap.push { cls := .type "tuple_iterator", data := .fields #[.ref t, .int 0 0] }).push { cls := .type "enumerate", data := .fields #[.none, .bool false, .ref s.heap.objs.size, rawInt 0, .none, .none] }) (s.heap.objs.size + 1) s.heap.objs.size 0 .none := by
    have q := Heap.get?_push_size (s.heap.push { cls := .type "tuple_iterator", data := .fields #[.ref t, .int 0 0] }) (o := { cls := .type "enumerate", data := .fields #[.none, .bool false, .ref s.heap.objs.size, rawInt 0, .none, .none] }) rfl
    rw [z] at q
    exact q
  exact ⟨⟨_, en, rfl⟩, k _ en ⟨_, Heap.get?_push_of_some _ (Heap.get?_push_size _ rfl), rfl, rfl⟩ fun b o x => Heap.get?_push_of_some _ (Heap.get?_push_of_some _ x)⟩
end
/-- the tuple at a at each turn, each item in a new pair -/
def ItQ (K : PySem.W.Frag) (a : Addr) : It where
  go := fun i H => ∃ (xs : List V) (x : V), SqT K H a xs ∧ xs[i]? = some x
  yld := fun i H v H' => ∃ (T : Addr) (x : V), v = .ref T ∧ H T = none ∧ H' = upd H T (.tup [.int (i : Nat), x]) ∧ ∀ xs, SqT K H a xs → xs[i]? = some x
  stop := fun i H => ∃ xs : List V, SqT K H a xs ∧ xs.length = i
theorem turn_enumT {P : Program} {w : World} {K : PySem.W.Frag} {es : List Expr} {n0 : Nat} {tp : Pos} (a e it : Addr) :
    Turn P w K (.Tuple es n0 tp) (ItQ K a) [e, it] e (fun i h => (∃ old, IsEnum h e it ((i : Nat) : Int) old) ∧ h.IsTupleIter it a i ∧ e ≠ it) := by
  have two : ∀ {b : Addr}, b ∈ [e, it] → b = e ∨ b = it := fun {b} z => by simpa using z
  have apart : ∀ {h : Heap} {ws : Array Value} {old : Value} {c : Int} {i : Nat}, h.IsTuple a ws → IsEnum h e it c old → h.IsTupleIter it a i → a ≠ it ∧ e ∉ [it, a] ∨ e = it := by
    intro h ws old c i ⟨o1, q1, c1, _⟩ q2 ⟨o3, q3, c3, _⟩
    by_cases z : e = it
    · exact .inr z
    · refine .inl ⟨fun y => ?_, fun y => ?_⟩
      · rw [y, q3] at q1
        cases q1
        rw [c3] at c1
        exact nomatch c1
      · have y' : e = it ∨ e = a := by simpa using y
        rcases y' with y' | y'
        · exact z y'
        · rw [← y', show h.get? e = some _ from q2] at q1
          cases q1
          have c2 : Value.type "enumerate" = .type "tuple" := c1
          injection c2 with c2
          exact absurd c2 (by decide)
  refine ⟨by simp, fun i h st b hb => ?_, fun i h g st k => ?_, ?_, ?_, fun A i s Q E st q => ?_⟩
  · obtain ⟨⟨old, q1⟩, ⟨o, q2, _, q3⟩, _⟩ := st
    rcases two hb with z | z
    · exact ⟨_, by rw [z]; exact q1, fun v y => (by cases y)⟩
    · exact ⟨o, by rw [z]; exact q2, fun v y => by rw [q3] at y; cases y⟩
  · obtain ⟨⟨old, q1⟩, q2, q3⟩ := st
    exact ⟨⟨old, k e (by simp) _ q1⟩, q2.at fun o y => k it (by simp) o y, q3⟩
  · intro X hP hW hK hc i pins s σ H E I hf st hg
    subst hP hW hK
    obtain ⟨⟨old, q1⟩, q2, ne⟩ := st
    obtain ⟨xs, x, hq, hx⟩ := hg
    obtain ⟨its, rv, pt, _⟩ := I.tuple hq
    have pt : s.heap.IsTuple a its.toArray := pt
    obtain ⟨u, hu, ru⟩ := rv.get hx
    obtain ⟨na, ni⟩ := (apart pt q1 q2).resolve_right ne
    have le : e < s.heap.objs.size := Heap.lt_size q1
    have li : it < s.heap.objs.size := by
      obtain ⟨_, y, _⟩ := q2
      exact Heap.lt_size y
    have hsz : i < its.toArray.size := by simpa using (List.getElem?_eq_some_iff.mp hu).1
    have D := Draws.tuple (prog := X.prog) (w := X.w) (A := X.A.in1) (I.ok.hd hc) it a na its.toArray
    refine wpAny_pyNext_enum_itemD D q1 ⟨q2, pt⟩ hsz ne ni fun y g tk hy eo sg hT _ hk => ?_
    have yu : y = u := by
      have z : its[i]? = some y := by simpa using hy
      rw [hu] at z
      exact (Option.some.inj z).symm
    subst yu
    refine ⟨_, rfl, wpAny_letOwnedTupleGo_enum (s := { s with heap := g, toks := tk + 1 }) eo fun g2 en sb => ?_⟩
    have hT2 : g2.get? s.heap.objs.size = some { cls := .type "tuple", data := .seq #[.int i tk, y] } := (sb.2 _ (Nat.ne_of_gt le)).trans hT
    have fresh : H s.heap.objs.size = none := I.hok.fresh (Nat.le_refl _)
    have I2 : Inv X pins σ (upd H s.heap.objs.size (.tup [.int (i : Nat), x])) { s with heap := g2, toks := tk + 1 } := by
      refine I.turnedNew (ch := [e, it]) (fun b o hb q => ?_) hf (Nat.le_refl _) ⟨by show 2 ≤ sizeLine; decide, [.int i tk, y], .cons ⟨_, rfl⟩ (.cons ru .nil), ⟨_, hT2, rfl, _, rfl⟩⟩
      have b1 : b ≠ e := fun z => hb (by rw [z]; exact List.mem_cons_self)
      have b2 : b ≠ it := fun z => hb (by rw [z]; exact List.mem_cons_of_mem _ List.mem_cons_self)
      exact (sb.2 b b1).trans (hk b o b1 b2 q)
    refine ⟨.ref s.heap.objs.size, _, I2, rfl, ⟨_, x, rfl, fresh, rfl, fun ys hy' => by rw [I.tuple_inj hy' hq]; exact hx⟩, ⟨⟨y, ?_⟩, sg.1.at fun o q => (sb.2 it (Ne.symm ne)).trans q, ne⟩, fun b hb => ?_⟩
    · rw [show ((i + 1 : Nat) : Int) = (i : Int) + 1 by omega]
      exact en
    · rw [upd_ne]
      · exact (hf b hb).1
      · rcases two hb with z | z
        · rw [z]; exact Nat.ne_of_lt le
        · rw [z]; exact Nat.ne_of_lt li
  · intro X hP hW hK hc i pins s σ H E I hf st hg
    subst hP hW hK
    obtain ⟨⟨old, q1⟩, q2, ne⟩ := st
    obtain ⟨xs, hq, hx⟩ := hg
    obtain ⟨its, rv, pt, _⟩ := I.tuple hq
    have pt : s.heap.IsTuple a its.toArray := pt
    obtain ⟨na, _⟩ := (apart pt q1 q2).resolve_right ne
    have li : its.length = i := rv.length.symm.trans hx
    have D := Draws.tuple (prog := X.prog) (w := X.w) (A := X.A.in1) (I.ok.hd hc) it a na its.toArray
    have q2' : s.heap.IsTupleIter it a its.toArray.size := by rw [show its.toArray.size = i by simpa using li]; exact q2
    obtain ⟨f0, f1, f2, f3, f4, f5⟩ := hf it (by simp)
    exact wpAny_pyNext_enum_endD D q1 ⟨q2', pt⟩ fun g eb => ⟨rfl, I.turned (fun b o hb q => eb b o hb q) f0 f1 f3 f4 f5⟩
  · obtain ⟨⟨_, q1⟩, _⟩ := st
    exact wpAny_pyIter_enum q1 q
end Z
namespace Z
open PySem PySem.Spec PyProof.Rows L2

/-! ### enumerate(list or tuple) -/
def iEnumQ (K : PySem.W.Frag) (ta : TA) : TI := fun σ H R => ta σ H fun vs H1 => ∃ a xs, vs = [.ref a] ∧ ((SqL K H1 a xs ∧ R (Ite K a) H1) ∨ (SqT K H1 a xs ∧ R (ItQ K a) H1))
theorem pi_enumQ {X : Cx} {e : Expr} {ta : TA} {p pos tpos : Pos} {elts : List Expr} {kk : Nat} (hg : Gl X "enumerate") (hm : X.mg "enumerate" = none) (ha : PA X [e] ta) (hs : starEach [e] X.env = [(false, eval e X.env)] := by rfl) :
    PI X (.Tuple elts kk tpos) (.Call (.Name "enumerate" p) [e] [] pos) (iEnumQ X.K ta) := by
  refine ⟨fun pins s σ H R I h => ?_⟩
  refine Call_ (ld_blt I hg hm boot_enumerate (PyProof.Rows.callWith_type1 (thn (ha.run pos pins s σ H _ I h) fun us s1 ⟨vs, H1, I1, r1, q1⟩ => ?_) hs rfl))
  obtain ⟨a, xs, rfl, q⟩ := q1
  obtain ⟨u, us', r, rr, rfl⟩ : ∃ u us', RelV (.ref a) u ∧ Vals [] us' ∧ us = u :: us' := by
    cases r1 with
    | cons r rr => exact ⟨_, _, r, rr, rfl⟩
  cases rr
  cases r
  have fp : ∀ b ∈ [s1.heap.objs.size + 1, s1.heap.objs.size], FpOk X pins H1 b := fun b hb => by
    have hle : s1.heap.objs.size ≤ b := by
      rcases List.mem_cons.mp hb with z | z
      · rw [z]; exact Nat.le_add_right _ _
      · rw [List.mem_singleton.mp z]; exact Nat.le_refl _
    exact I1.fpOk hle (I1.hok.fresh hle)
  rcases q with ⟨hq, q⟩ | ⟨hq, q⟩
  · obtain ⟨its, _, pl, _⟩ := I1.list hq
    exact call_enumerate_list pl.isList fun g he hit _ hk => wpAny_pyIter_enum he
      ⟨_, _, _, _, H1, rfl, I1.kept (t' := s1.toks) hk, turn_enum a (s1.heap.objs.size + 1) s1.heap.objs.size, ⟨⟨.none, he⟩, hit, Nat.succ_ne_self _⟩, fp, q⟩
  · obtain ⟨its, _, pt, _⟩ := I1.tuple hq
    exact call_enumT (ws := its.toArray) pt fun g he hit hk => wpAny_pyIter_enum he
      ⟨_, _, _, _, H1, rfl, I1.kept (t' := s1.toks) hk, turn_enumT a (s1.heap.objs.size + 1) s1.heap.objs.size, ⟨⟨.none, he⟩, hit, Nat.succ_ne_self _⟩, fp, q⟩
theorem walk_enumT {K : PySem.W.Frag} {a : Addr} {xs : List V} : Walk (ItQ K a) xs.length (fun H => SqT K H a xs) (YPair (fun i => some (.int (i : Nat))) (fun i => xs[i]?)) :=
  ⟨fun i _ hi q => ⟨xs, xs[i], q, List.getElem?_eq_getElem hi⟩, fun _ q => ⟨xs, q, rfl⟩, fun i H v H' _ q ⟨T, x, h1, h2, h3, h4⟩ => ⟨T, .int (i : Nat), x, h1, h2, h3, rfl, h4 xs q⟩⟩
def enumD (ds : List PyData) : List PyData := ds.mapIdx fun i d => .tuple [.int (i : Nat), d]
theorem enumD_len {ds : List PyData} : (enumD ds).length = ds.length := by simp [enumD]
theorem enumD_at {ds : List PyData} {i : Nat} {d : PyData} (h : ds[i]? = some d) : (enumD ds)[i]? = some (.tuple [.int (i : Nat), d]) := by simp [enumD, List.getElem?_mapIdx, h]
theorem enumD_get {ds : List PyData} {i : Nat} {x : PyData} (h : (enumD ds)[i]? = some x) : ∃ d, ds[i]? = some d ∧ x = .tuple [.int (i : Nat), d] := by
  simp only [enumD, List.getElem?_mapIdx, Option.map_eq_some_iff] at h
  obtain ⟨d, h1, h2⟩ := h
  exact ⟨d, h1, h2.symm⟩
section
variable {K : PySem.W.Frag} {Γ : List Sl} {ta tl tb : TE} {Ψ : List PyData → Prop}
/-- a pair laid at each turn -/
theorem walkD_pairs {J : It} {Hs : Hp} {G : Hp → Prop} {f g : Nat → Option V} {ds : List PyData} (w : L2.Walk J ds.length G (YPair f g)) (hG : ∀ H, Same Hs H → G H)
    (hp : ∀ i x y, i < ds.length → f i = some x → g i = some y → ∃ c d, ds[i]? = some (.tuple [c, d]) ∧ Rp K Hs x c ∧ Rp K Hs y d) : WalkD K J ds Hs :=
  ⟨G, _, w, fun B Γ σ H0 H st e => hG _ (e.trans st.ex), fun i x B Γ σ H0 H H' st e hi y => by
    obtain ⟨T, x1, x2, rfl, h2, rfl, h4, h5⟩ := y
    obtain ⟨c, d, hd, r1, r2⟩ := hp i x1 x2 hi h4 h5
    obtain ⟨s2, e2⟩ := st.alloc (o := .tup [x1, x2]) h2
    exact ⟨_, _, hd, s2, e2, Rp.tup upd_same (.cons (Rp.mono (e.trans e2) _ _ r1) (.cons (Rp.mono (e.trans e2) _ _ r2) .nil))⟩⟩
theorem seq_of_rp {Hs H : Hp} {v : V} {ds : List PyData} (r : Rp K Hs v (.tuple ds) ∨ Rp K Hs v (.list ds)) (e : Same Hs H) : ∃ a xs, v = .ref a ∧ RpA K Hs xs ds ∧ ((SqL K H a xs ∧ Hs a = some (.lst xs)) ∨ (SqT K H a xs ∧ SqT K Hs a xs)) := by
  rcases r with r | r
  · cases r with
    | tup h1 h2 => exact ⟨_, _, rfl, h2, .inr ⟨same_t e (SqT.of h1), SqT.of h1⟩⟩
  · cases r with
    | lst h1 h2 => exact ⟨_, _, rfl, h2, .inl ⟨SqL.of (e _ _ h1), h1⟩⟩
theorem wi_enum (h : Wd K tl Γ fun d => ∃ ds, (d = .tuple ds ∨ d = .list ds) ∧ Ψ (enumD ds)) : Wi K (iEnumQ K (tCons tl tNil)) Γ Ψ := fun B σ H0 H st Q k =>
  h B σ H0 H st _ fun v d H1 H' s e r q => by
    obtain ⟨ds, hd, q⟩ := q
    obtain ⟨a, xs, rfl, ra, hs⟩ := seq_of_rp (K := K) (Hs := H1) (H := H') (v := v) (ds := ds) (hd.elim (fun z => .inl (z ▸ r)) fun z => .inr (z ▸ r)) s.ex
    have pp : ∀ i x y, i < (enumD ds).length → some (V.int (i : Nat)) = some x → xs[i]? = some y → ∃ c d, (enumD ds)[i]? = some (.tuple [c, d]) ∧ Rp K H1 x c ∧ Rp K H1 y d := fun i x y _ h1 h2 => by
      obtain ⟨d, h3, h4⟩ := ra.get h2
      cases h1
      exact ⟨_, d, enumD_at h3, .int _, h4⟩
    have hl : xs.length = (enumD ds).length := by rw [enumD_len, ra.length]
    rcases hs with ⟨h1, h2⟩ | ⟨h1, h2⟩
    · exact ⟨a, xs, rfl, .inl ⟨h1, k _ _ _ _ s e (walkD_pairs (by rw [← hl]; exact walk_enum) (fun H e' => SqL.of (e' _ _ h2)) pp) q⟩⟩
    · exact ⟨a, xs, rfl, .inr ⟨h1, k _ _ _ _ s e (walkD_pairs (by rw [← hl]; exact walk_enumT) (fun H e' => same_t e' h2) pp) q⟩⟩
end

/-! ### zip of two, each a list or a tuple -/
def SqB (K : PySem.W.Frag) (b : Bool) (H : Hp) (a : Addr) (xs : List V) : Prop := cond b (SqL K H a xs) (SqT K H a xs)
def HqB (b : Bool) (h : Heap) (a : Addr) (ws : Array Value) : Prop := cond b (h.IsList a ws) (h.IsTuple a ws)
def ItB (b : Bool) (h : Heap) (it a : Addr) (i : Nat) : Prop := cond b (h.IsListIter it a i) (h.IsTupleIter it a i)
def itO (b : Bool) (a : Addr) : Obj := cond b { cls := .type "list_iterator", data := .fields #[.ref a, .int 0 0] } { cls := .type "tuple_iterator", data := .fields #[.ref a, .int 0 0] }
theorem itB_obj {b : Bool} {h : Heap} {it a : Addr} {i : Nat} (q : ItB b h it a i) : ∃ o, h.get? it = some o ∧ ∀ v, o.data ≠ .cell v := by
  cases b <;> (obtain ⟨o, h1, _, h2⟩ := q; exact ⟨o, h1, fun v z => by rw [h2] at z; cases z⟩)
theorem itB_at {b : Bool} {h g : Heap} {it a : Addr} {i : Nat} (q : ItB b h it a i) (k : ∀ o, h.get? it = some o → g.get? it = some o) : ItB b g it a i := by
  cases b
  · exact Heap.IsTupleIter.at q k
  · exact Heap.IsListIter.at q k
theorem itB_new {b : Bool} {h : Heap} {it a : Addr} (q : h.get? it = some (itO b a)) : ItB b h it a 0 := by
  cases b <;> exact ⟨_, q, rfl, rfl⟩
theorem hqB_at {b : Bool} {h g : Heap} {a : Addr} {ws : Array Value} (q : HqB b h a ws) (k : ∀ o, h.get? a = some o → g.get? a = some o) : HqB b g a ws := by
  cases b
  · exact Heap.IsTuple.at q k
  · exact Heap.IsList.at q k
theorem hqB_lt {b : Bool} {h : Heap} {a : Addr} {ws : Array Value} (q : HqB b h a ws) : a < h.objs.size := by
  cases b <;> (obtain ⟨o, h1, _⟩ := q; exact Heap.lt_size h1)
theorem sqB_inv {X : Cx} {pins : List (Addr × Obj)} {σ : L2.St} {H : Hp} {s : Shared} {b : Bool} {a : Addr} {xs : List V} (I : Inv X pins σ H s) (q : SqB X.K b H a xs) : ∃ its : List Value, Vals xs its ∧ HqB b s.heap a its.toArray := by
  cases b
  · obtain ⟨its, h1, h2, _⟩ := I.tuple q
    exact ⟨its, h1, h2⟩
  · obtain ⟨its, h1, h2, _⟩ := I.list q
    exact ⟨its, h1, h2.isList⟩
theorem sqB_inj {X : Cx} {pins : List (Addr × Obj)} {σ : L2.St} {H : Hp} {s : Shared} {b : Bool} {a : Addr} {xs ys : List V} (I : Inv X pins σ H s) (q : SqB X.K b H a xs) (q' : SqB X.K b H a ys) : xs = ys := by
  cases b
  · exact I.tuple_inj q q'
  · exact I.list_inj q q'
theorem drawsB {prog : Program} {w : World} {A : Around} (hh : A.handled = none) (b : Bool) (it a : Addr) (hne : a ≠ it) (ws : Array Value) :
    Draws prog w A it [it, a] ws.size (fun i v => ws[i]? = some v) (fun i h => ItB b h it a i ∧ HqB b h a ws) := by
  cases b
  · exact .tuple hh it a hne ws
  · exact .list hh it a hne ws
theorem beginsB (b : Bool) (a : Addr) (ws : Array Value) : Begins (.ref a) (itO b a) fun h => HqB b h a ws := by
  cases b
  · exact begins_tuple a ws
  · exact begins_list a ws
def ItzB (K : PySem.W.Frag) (b c : Bool) (a d : Addr) : It where
  go := fun i H => ∃ (xs ys : List V) (x y : V), SqB K b H a xs ∧ SqB K c H d ys ∧ xs[i]? = some x ∧ ys[i]? = some y
  yld := fun i H v H' => ∃ (T : Addr) (x y : V), v = .ref T ∧ H T = none ∧ H' = upd H T (.tup [x, y]) ∧ (∀ xs, SqB K b H a xs → xs[i]? = some x) ∧ ∀ ys, SqB K c H d ys → ys[i]? = some y
  stop := fun i H => ∃ xs ys : List V, SqB K b H a xs ∧ SqB K c H d ys ∧ i = min xs.length ys.length
theorem turn_zipB {P : Program} {w : World} {K : PySem.W.Frag} {es : List Expr} {n0 : Nat} {tp : Pos} {b c : Bool} {a d z TI TO i1 i2 : Addr} (S : ZipSep2 z TI TO i1 i2 [i1, a] [i2, d]) (n1 : a ≠ i1) (n2 : d ≠ i2) :
    Turn P w K (.Tuple es n0 tp) (ItzB K b c a d) [z, TI, TO, i1, i2] z (fun i h => IsZip h z TI TO .none ∧ IsTupOf2 h TI (.ref i1) (.ref i2) ∧ (∃ x y, IsTupOf2 h TO x y) ∧ ItB b h i1 a i ∧ ItB c h i2 d i) := by
  refine ⟨by simp, fun i h st b hb => ?_, fun i h g st k => ?_, ?_, ?_, fun A i s Q E st q => wpAny_pyIter_zip st.1 q⟩
  · obtain ⟨q1, q2, ⟨x, y, q3⟩, q4, q5⟩ := st
    have hb : b = z ∨ b = TI ∨ b = TO ∨ b = i1 ∨ b = i2 := by simpa using hb
    rcases hb with rfl | rfl | rfl | rfl | rfl
    · exact ⟨_, q1, fun v y => (by cases y)⟩
    · exact ⟨_, q2, fun v y => (by cases y)⟩
    · exact ⟨_, q3, fun v y => (by cases y)⟩
    · exact itB_obj q4
    · exact itB_obj q5
  · obtain ⟨q1, q2, ⟨x, y, q3⟩, q4, q5⟩ := st
    exact ⟨k _ (by simp) _ q1, k _ (by simp) _ q2, ⟨x, y, k _ (by simp) _ q3⟩, itB_at q4 fun o => k _ (by simp) o, itB_at q5 fun o => k _ (by simp) o⟩
  · intro X hP hW hK hc i pins s σ H E I hf st hg
    subst hP hW hK
    obtain ⟨q1, q2, ⟨x0, y0, q3⟩, q4, q5⟩ := st
    obtain ⟨xs, ys, x, y, hx, hy, gx, gy⟩ := hg
    obtain ⟨us, rx, px⟩ := sqB_inv I hx
    obtain ⟨vs, ry, py⟩ := sqB_inv I hy
    obtain ⟨u, hu, ru⟩ := rx.get gx
    obtain ⟨v, hv, rv⟩ := ry.get gy
    have D1 := drawsB (prog := X.prog) (w := X.w) (A := X.A.in1) (I.ok.hd hc) b i1 a n1 us.toArray
    have D2 := drawsB (prog := X.prog) (w := X.w) (A := X.A.in1) (I.ok.hd hc) c i2 d n2 vs.toArray
    have lz : z < s.heap.objs.size := Heap.lt_size q1
    refine wpAny_pyNext_zipD2_item S D1 D2 q1 q2 q3 ⟨q4, px⟩ ⟨q5, py⟩ (by simpa using (List.getElem?_eq_some_iff.mp hu).1) (by simpa using (List.getElem?_eq_some_iff.mp hv).1) fun x1 x2 g tk h1 h2 gz gO s1 s2 gT _ hk => ?_
    have e1 : x1 = u := Option.some.inj ((show us[i]? = some x1 by simpa using h1).symm.trans hu)
    have e2 : x2 = v := Option.some.inj ((show vs[i]? = some x2 by simpa using h2).symm.trans hv)
    subst e1 e2
    refine ⟨_, rfl, wpAny_letOwnedTupleGo_zip (s := { s with heap := g, toks := tk }) gz fun g2 gz2 sb => ?_⟩
    have hT2 : g2.get? s.heap.objs.size = some { cls := .type "tuple", data := .seq #[x1, x2] } := (sb.2 _ (Nat.ne_of_gt lz)).trans gT
    have fresh : H s.heap.objs.size = none := I.hok.fresh (Nat.le_refl _)
    have lt : ∀ b ∈ [z, TI, TO, i1, i2], b < s.heap.objs.size := fun b hb => by
      have hb : b = z ∨ b = TI ∨ b = TO ∨ b = i1 ∨ b = i2 := by simpa using hb
      rcases hb with rfl | rfl | rfl | rfl | rfl
      · exact lz
      · exact Heap.lt_size q2
      · exact Heap.lt_size q3
      · obtain ⟨_, y, _⟩ := itB_obj q4; exact Heap.lt_size y
      · obtain ⟨_, y, _⟩ := itB_obj q5; exact Heap.lt_size y
    have I2 : Inv X pins σ (upd H s.heap.objs.size (.tup [x, y])) { s with heap := g2, toks := tk } := by
      refine I.turnedNew (ch := [z, TI, TO, i1, i2]) (fun b o hb q => ?_) hf (Nat.le_refl _) ⟨by show 2 ≤ sizeLine; decide, [x1, x2], .cons ru (.cons rv .nil), ⟨_, hT2, rfl, _, rfl⟩⟩
      have ne : ∀ c ∈ [z, TI, TO, i1, i2], b ≠ c := fun c hc e => hb (e ▸ hc)
      exact (sb.2 b (ne z (by simp))).trans (hk b o (ne z (by simp)) (ne TO (by simp)) (ne i1 (by simp)) (ne i2 (by simp)) q)
    refine ⟨.ref s.heap.objs.size, _, I2, rfl, ⟨_, x, y, rfl, fresh, rfl, fun l q => by rw [sqB_inj I q hx]; exact gx, fun l q => by rw [sqB_inj I q hy]; exact gy⟩, ⟨gz2, ?_, ⟨x1, x2, ?_⟩, ?_, ?_⟩, fun b hb => ?_⟩
    · exact (sb.2 _ S.TIz).trans (hk _ _ S.TIz S.TITO S.TIi1 S.TIi2 q2)
    · exact (sb.2 _ S.TOz).trans gO
    · exact itB_at s1.1 fun o q => (sb.2 _ S.zi1.symm).trans q
    · exact itB_at s2.1 fun o q => (sb.2 _ S.zi2.symm).trans q
    · rw [upd_ne (Nat.ne_of_lt (lt b hb))]
      exact (hf b hb).1
  · intro X hP hW hK hc i pins s σ H E I hf st hg
    subst hP hW hK
    obtain ⟨q1, q2, ⟨x0, y0, q3⟩, q4, q5⟩ := st
    obtain ⟨xs, ys, hx, hy, hi⟩ := hg
    obtain ⟨us, rx, px⟩ := sqB_inv I hx
    obtain ⟨vs, ry, py⟩ := sqB_inv I hy
    have D1 := drawsB (prog := X.prog) (w := X.w) (A := X.A.in1) (I.ok.hd hc) b i1 a n1 us.toArray
    have D2 := drawsB (prog := X.prog) (w := X.w) (A := X.A.in1) (I.ok.hd hc) c i2 d n2 vs.toArray
    have l1 := rx.length
    have l2 := ry.length
    refine wpAny_pyNext_zipD2_end S D1 D2 q1 q2 q3 ⟨q4, px⟩ ⟨q5, py⟩ (by simp; omega) (by simp; omega) (by simp; omega) fun g tk hk => ⟨rfl, I.turnedL (ch := [z, TI, TO, i1, i2]) (fun b o hb q => ?_) hf⟩
    have ne : ∀ c ∈ [z, TI, TO, i1, i2], b ≠ c := fun c hc e => hb (e ▸ hc)
    exact hk b o (ne z (by simp)) (ne TO (by simp)) (ne i1 (by simp)) (ne i2 (by simp)) q
def iZipQ (K : PySem.W.Frag) (ta : TA) : TI := fun σ H R => ta σ H fun vs H1 => ∃ b c a d xs ys, vs = [.ref a, .ref d] ∧ SqB K b H1 a xs ∧ SqB K c H1 d ys ∧ R (ItzB K b c a d) H1
theorem pi_zipQ {X : Cx} {e e2 : Expr} {ta : TA} {p pos tpos : Pos} {elts : List Expr} {kk : Nat} (hg : Gl X "zip") (hm : X.mg "zip" = none) (ha : PA X [e, e2] ta)
    (hs : starEach [e, e2] X.env = (false, eval e X.env) :: starEach [e2] X.env := by rfl) (hpl : (backTo pos (starEach [e2] X.env)).any (·.1) = false := by rfl) :
    PI X (.Tuple elts kk tpos) (.Call (.Name "zip" p) [e, e2] [] pos) (iZipQ X.K ta) := by
  refine ⟨fun pins s σ H R I h => ?_⟩
  refine Call_ (ld_blt I hg hm PyProof.Rows.boot_zip (PyProof.Rows.callWith_type1 (thn (ha.run pos pins s σ H _ I h) fun us s1 ⟨vs, H1, I1, r1, q1⟩ => ?_) hs hpl))
  obtain ⟨b, c, a, d, xs, ys, rfl, hx, hy, q⟩ := q1
  obtain ⟨u, u2, r, r2, rfl⟩ : ∃ u u2, RelV (.ref a) u ∧ RelV (.ref d) u2 ∧ us = [u, u2] := by
    cases r1 with
    | cons r rr =>
      cases rr with
      | cons r2 rr =>
        cases rr
        exact ⟨_, _, r, r2, rfl⟩
  cases r
  cases r2
  obtain ⟨ws, _, px⟩ := sqB_inv I1 hx
  obtain ⟨zs, _, py⟩ := sqB_inv I1 hy
  refine zip_begins2 (beginsB b a ws.toArray) (beginsB c d zs.toArray) px py fun g hz hTI hTO h1 h2 _ hk => wpAny_pyIter_zip hz ?_
  have la := hqB_lt px
  have ld := hqB_lt py
  refine ⟨_, [s1.heap.objs.size + 4, s1.heap.objs.size + 2, s1.heap.objs.size + 3, s1.heap.objs.size, s1.heap.objs.size + 1], _, _, H1, rfl, I1.kept (t' := s1.toks) hk,
    turn_zipB (zip_sep2 (fp1 := [a]) (fp2 := [d]) (fun x hx => by rw [List.mem_singleton.mp hx]; exact la) (fun x hx => by rw [List.mem_singleton.mp hx]; exact ld)) (Nat.ne_of_lt la) (Nat.ne_of_lt (Nat.lt_succ_of_lt ld)),
    ⟨hz, hTI, ⟨_, _, hTO⟩, itB_new h1, itB_new h2⟩, fun x hx => ?_, q⟩
  have hle : s1.heap.objs.size ≤ x := by
    have hx : x = s1.heap.objs.size + 4 ∨ x = s1.heap.objs.size + 2 ∨ x = s1.heap.objs.size + 3 ∨ x = s1.heap.objs.size ∨ x = s1.heap.objs.size + 1 := by simpa using hx
    rcases hx with rfl | rfl | rfl | rfl | rfl
    · exact Nat.le_add_right _ _
    · exact Nat.le_add_right _ _
    · exact Nat.le_add_right _ _
    · exact Nat.le_refl _
    · exact Nat.le_add_right _ _
  exact I1.fpOk hle (I1.hok.fresh hle)
def zipD : List PyData → List PyData → List PyData
  | c :: cs, d :: ds => .tuple [c, d] :: zipD cs ds
  | _, _ => []
theorem zipD_len : ∀ {cs ds : List PyData}, (zipD cs ds).length = min cs.length ds.length
  | [], _ => by simp [zipD]
  | _ :: _, [] => by simp [zipD]
  | c :: cs, d :: ds => by simp only [zipD, List.length_cons, zipD_len (cs := cs) (ds := ds)]; omega
theorem zipD_at : ∀ {cs ds : List PyData} {i : Nat} {c d : PyData}, cs[i]? = some c → ds[i]? = some d → (zipD cs ds)[i]? = some (.tuple [c, d])
  | [], _, _, _, _, h, _ => by simp at h
  | _ :: _, [], _, _, _, _, h => by simp at h
  | c :: cs, d :: ds, 0, _, _, h1, h2 => by
    simp only [List.getElem?_cons_zero, Option.some.injEq] at h1 h2
    simp [zipD, h1, h2]
  | c :: cs, d :: ds, i + 1, _, _, h1, h2 => by
    simp only [List.getElem?_cons_succ] at h1 h2
    simp only [zipD, List.getElem?_cons_succ]
    exact zipD_at h1 h2
theorem zipD_get {cs ds : List PyData} {i : Nat} {x : PyData} (h : (zipD cs ds)[i]? = some x) : ∃ c d, cs[i]? = some c ∧ ds[i]? = some d ∧ x = .tuple [c, d] := by
  have hi := (List.getElem?_eq_some_iff.mp h).1
  rw [zipD_len] at hi
  have h1 := List.getElem?_eq_getElem (l := cs) (i := i) (by omega)
  have h2 := List.getElem?_eq_getElem (l := ds) (i := i) (by omega)
  exact ⟨_, _, h1, h2, Option.some.inj (h.symm.trans (zipD_at h1 h2))⟩
section
variable {K : PySem.W.Frag} {Γ : List Sl} {ta tl tb : TE} {Ψ : List PyData → Prop}
theorem seqB_of_rp {Hs : Hp} {v : V} {ds : List PyData} (r : Rp K Hs v (.tuple ds) ∨ Rp K Hs v (.list ds)) : ∃ b a xs, v = .ref a ∧ RpA K Hs xs ds ∧ ∀ H, Same Hs H → SqB K b H a xs := by
  rcases r with r | r
  · cases r with
    | tup h1 h2 => exact ⟨false, _, _, rfl, h2, fun H e => same_t e (SqT.of h1)⟩
  · cases r with
    | lst h1 h2 => exact ⟨true, _, _, rfl, h2, fun H e => SqL.of (e _ _ h1)⟩
theorem walk_zipB {K : PySem.W.Frag} {b c : Bool} {a d : Addr} {xs ys : List V} {n : Nat} (hn : n = min xs.length ys.length) : Walk (ItzB K b c a d) n (fun H => SqB K b H a xs ∧ SqB K c H d ys) (YPair (fun i => xs[i]?) (fun i => ys[i]?)) :=
  ⟨fun i _ hi q => ⟨xs, ys, xs[i]'(by omega), ys[i]'(by omega), q.1, q.2, List.getElem?_eq_getElem _, List.getElem?_eq_getElem _⟩, fun _ q => ⟨xs, ys, q.1, q.2, hn⟩, fun i H v H' _ q ⟨T, x, y, h1, h2, h3, h4, h5⟩ => ⟨T, x, y, h1, h2, h3, h4 xs q.1, h5 ys q.2⟩⟩
theorem wi_zip (h : Wd K ta Γ fun c => Wd K tb Γ fun d => ∃ cs ds, (c = .tuple cs ∨ c = .list cs) ∧ (d = .tuple ds ∨ d = .list ds) ∧ Ψ (zipD cs ds)) : Wi K (iZipQ K (tCons ta (tCons tb tNil))) Γ Ψ := fun B σ H0 H st Q k =>
  h B σ H0 H st _ fun v c H1 H' s e r q => q B σ H1 H' s _ fun v2 d H2 H'' s2 e2 r2 q2 => by
    obtain ⟨cs, ds, hc, hd, q⟩ := q2
    have r := Rp.mono e2 _ _ r
    obtain ⟨b1, a1, xs, rfl, ra, hs⟩ := seqB_of_rp (K := K) (Hs := H2) (v := v) (ds := cs) (hc.elim (fun z => .inl (z ▸ r)) fun z => .inr (z ▸ r))
    obtain ⟨b2, a2, ys, rfl, rb, ht⟩ := seqB_of_rp (K := K) (Hs := H2) (v := v2) (ds := ds) (hd.elim (fun z => .inl (z ▸ r2)) fun z => .inr (z ▸ r2))
    refine ⟨b1, b2, a1, a2, xs, ys, rfl, hs _ s2.ex, ht _ s2.ex, k _ _ _ _ s2 (e.trans e2) (walkD_pairs (walk_zipB (by rw [zipD_len, ra.length, rb.length])) (fun H e' => ⟨hs _ e', ht _ e'⟩) fun i x y _ h1 h2 => ?_) q⟩
    obtain ⟨c, hc, rc⟩ := ra.get h1
    obtain ⟨d, hd, rd⟩ := rb.get h2
    exact ⟨c, d, zipD_at hc hd, rc, rd⟩
end
end Z
namespace Z
open PySem PySem.Spec PyProof.Rows L2

section
variable {K : PySem.W.Frag} {B : Bs} {Γ : List Sl} {σ : L2.St} {H0 H : Hp} {p a : Addr} {b : Ob} {o : HO}
/-! ### several addresses at once -/
theorem St8.chgG {i : Nat} {b' : Ob} (st : St8 K B Γ σ H0 H) (h : Γ[i]? = some (.own p b)) (ha : a ∈ fp p b) (hf : fp p b' = fp p b) (hm : mine b → mine b') (hb : ObAt K H0 (upd H a o) p b') : St8 K B (Γ.set i (.own p b')) σ H0 (upd H a o) := by
  obtain ⟨f0, fM⟩ := st.fr i p b h a ha
  have oth : ∀ (j : Nat) q c, i ≠ j → Γ[j]? = some (.own q c) → a ∉ fp q c := fun j q c hne hj => st.sep i j p b q c hne h hj a ha
  refine ⟨fun j s hj => ?_, fun x u e => ?_, fun j k p1 b1 q c hjk e1 e2 => ?_, fun j p1 b1 hj => ?_, st.b0, st.old, fun x u e1 e2 => ?_, fun x hx => ?_, st.md⟩
  · rcases getset hj with ⟨rfl, rfl, hl⟩ | ⟨hne, hj⟩
    · obtain ⟨w, e, ok⟩ := st.sl i _ h
      exact ⟨w, e, ok.1, hb⟩
    · obtain ⟨w, e, ok⟩ := st.sl j s hj
      refine ⟨w, e, ?_⟩
      cases s with
      | un => trivial
      | dat d => exact ok
      | own q c => exact ⟨ok.1, ok.2.cong (Same.refl _) fun x hx => upd_ne fun z => oth j q c hne hj (z ▸ hx)⟩
  · rw [upd_ne (fun z => by rw [z, f0] at e; cases e)]
    exact st.ex x u e
  · rcases getset e1 with ⟨z1, z, _⟩ | ⟨n1, e1⟩
    · cases z
      rcases getset e2 with ⟨z2, _, _⟩ | ⟨n2, e2⟩
      · exact absurd (z1.symm.trans z2) hjk
      · rw [hf]
        exact st.sep j k p b q c hjk (z1 ▸ h) e2
    rcases getset e2 with ⟨z2, z, _⟩ | ⟨n2, e2⟩
    · cases z
      rw [hf]
      exact st.sep j k p1 b1 p b hjk e1 (z2 ▸ h)
    exact st.sep j k p1 b1 q c hjk e1 e2
  · rcases getset hj with ⟨z1, z, _⟩ | ⟨_, hj⟩
    · cases z
      rw [hf]
      exact fun x hx => have q := st.fr i p b h x hx; ⟨q.1, q.2.imp (fun z => ⟨z.1, hm z.2⟩) id⟩
    exact st.fr j p1 b1 hj
  · have : x ≠ a := fun z => by
      subst z
      rcases fM with z | z
      · exact e2 z.1
      · rw [z] at e1; cases e1
    rw [upd_ne this]
    exact st.keep x u e1 e2
  · by_cases z : x = a
    · subst z; exact ne_none_of upd_same
    · rw [upd_ne z]; exact st.dom x hx
/-- several objects become data -/
theorem St8.growL {l : List Addr} (st : St8 K B Γ σ H0 H) (h : ∀ a ∈ l, H0 a = none ∧ B.b a = none ∧ ∀ (i : Nat) q b', Γ[i]? = some (.own q b') → a ∉ fp q b') :
    St8 K B Γ σ (fun a => if a ∈ l then H a else H0 a) H ∧ Same H0 (fun a => if a ∈ l then H a else H0 a) := by
  have e : Same H0 (fun a => if a ∈ l then H a else H0 a) := fun x u hx => by
    show (if x ∈ l then H x else H0 x) = _
    rw [if_neg (fun z => by rw [(h x z).1] at hx; cases hx)]
    exact hx
  refine ⟨⟨fun i s hs => ?_, fun x u hx => ?_, st.sep, fun i q b' hi x hx => ?_, st.b0.trans e, fun x hx => ?_, st.keep, st.dom, st.md⟩, e⟩
  · obtain ⟨w, h1, h2⟩ := st.sl i s hs
    refine ⟨w, h1, ?_⟩
    cases s with
    | un => trivial
    | dat d => obtain ⟨v, h3, h4⟩ := h2; exact ⟨v, h3, Rp.mono e _ _ h4⟩
    | own q b' => exact ⟨h2.1, h2.2.mono e (Same.refl _)⟩
  · have hx : (if x ∈ l then H x else H0 x) = some u := hx
    by_cases z : x ∈ l
    · rw [if_pos z] at hx; exact hx
    · rw [if_neg z] at hx; exact st.ex x u hx
  · obtain ⟨f0, fM⟩ := st.fr i q b' hi x hx
    refine ⟨?_, fM⟩
    show (if x ∈ l then H x else H0 x) = none
    rw [if_neg fun z => (h x z).2.2 i q b' hi hx]
    exact f0
  · show (if x ∈ l then H x else H0 x) = _
    rw [if_neg fun z => hx (h x z).2.1]
    exact st.old x hx
theorem set_self {σ : L2.St} {i : Nat} {x : Option V} (e : σ[i]? = some x) : σ.set i x = σ := by
  apply List.ext_getElem?
  intro j
  rw [List.getElem?_set]
  split
  · rename_i z
    subst z
    rw [e, if_pos (List.getElem?_eq_some_iff.mp e).1]
  · rfl
theorem rows_rp {H0 H0' H : Hp} {qs : List Addr} {rows : List (List PyData)} (e0 : Same H0 H0') (hl : qs.length = rows.length) (hq : ∀ (i : Nat) q r, qs[i]? = some q → rows[i]? = some r → ∃ xs, H q = some (.lst xs) ∧ RpA K H0 xs r) (hs : ∀ q ∈ qs, H0' q = H q) :
    RpA K H0' (qs.map V.ref) (rows.map PyData.list) := by
  refine RpA.of_get (by simp [hl]) fun i v d h1 h2 => ?_
  rw [List.getElem?_map, Option.map_eq_some_iff] at h1 h2
  obtain ⟨q, h1, rfl⟩ := h1
  obtain ⟨r, h2, rfl⟩ := h2
  obtain ⟨xs, h3, h4⟩ := hq i q r h1 h2
  exact .lst ((hs q (List.mem_of_getElem? h1)).trans h3) (RpA.mono e0 _ _ h4)
/-- an owned list of lists becomes data -/
theorem St8.frzL {i : Nat} {qs : List Addr} {rows : List (List PyData)} (st : St8 K B Γ σ H0 H) (h : Γ[i]? = some (.own p (.ll qs rows))) : ∃ H0', Same H0 H0' ∧ St8 K B (Γ.set i (.dat (.list (rows.map .list)))) σ H0' H := by
  obtain ⟨w, e, rfl, hp, nd, hl, hq⟩ := st.sl i _ h
  have fr : ∀ a ∈ p :: qs, H0 a = none ∧ B.b a = none := fun a ha => have q := st.fr i p _ h a ha; ⟨q.1, q.2.resolve_left fun z => z.2⟩
  obtain ⟨st2, e0⟩ := (st.drop i).growL (l := p :: qs) fun a ha => ⟨(fr a ha).1, (fr a ha).2, fun j q c hj => by
    rcases getset hj with ⟨_, z, _⟩ | ⟨hne, hj⟩
    · cases z
    · exact st.sep i j p _ q c hne h hj a ha⟩
  have at1 : ∀ a ∈ p :: qs, (if a ∈ p :: qs then H a else H0 a) = H a := fun a ha => if_pos ha
  have st3 := st2.setD i (v := .ref p) (d := .list (rows.map .list)) (.lst ((at1 p List.mem_cons_self).trans hp) (rows_rp e0 hl hq fun q hq => at1 q (List.mem_cons_of_mem _ hq)))
  rw [set_self e, List.set_set] at st3
  exact ⟨_, e0, st3⟩
/-- an object that is to stand while other things go on -/
theorem Frs.overG (f : Frs K B Γ H0 H p b) (st : St8 K B Γ σ H0 H) : ∃ B' : Bs, St8 K B' Γ σ H0 H ∧ (∀ a, B'.b a = none → B.b a = none ∧ a ∉ fp p b) ∧
    ∀ Γ2 σ2 H2 H2', St8 K B' Γ2 σ2 H2 H2' → Same H0 H2 → St8 K B Γ2 σ2 H2 H2' ∧ Frs K B Γ2 H2 H2' p b := by
  obtain ⟨ob, hf⟩ := f
  have dm := ob.dom
  refine ⟨⟨B.b0, fun a => if a ∈ fp p b then H a else B.b a, B.M⟩, ?_, fun a ha => ?_, fun Γ2 σ2 H2 H2' s e => ?_⟩
  · refine ⟨st.sl, st.ex, st.sep, fun i q b' hi x hx => ?_, st.b0, fun x hx => ?_, fun x u e1 e2 => ?_, fun x hx => ?_, fun x hx => ?_⟩
    · obtain ⟨f1, f2⟩ := st.fr i q b' hi x hx
      refine ⟨f1, f2.imp id fun z => ?_⟩
      show (if x ∈ fp p b then H x else B.b x) = none
      rw [if_neg fun y => (hf x y).2.2 i q b' hi hx]
      exact z
    · by_cases z : x ∈ fp p b
      · rw [(hf x z).1, st.b0.free (hf x z).1]
      · have hx : (if x ∈ fp p b then H x else B.b x) ≠ none := hx
        rw [if_neg z] at hx
        exact st.old x hx
    · have e1 : (if x ∈ fp p b then H x else B.b x) = some u := e1
      by_cases z : x ∈ fp p b
      · rw [if_pos z] at e1; exact e1
      · rw [if_neg z] at e1; exact st.keep x u e1 e2
    · have hx : (if x ∈ fp p b then H x else B.b x) ≠ none := hx
      by_cases z : x ∈ fp p b
      · rw [if_pos z] at hx; exact hx
      · rw [if_neg z] at hx; exact st.dom x hx
    · show (if x ∈ fp p b then H x else B.b x) ≠ none
      by_cases z : x ∈ fp p b
      · exact absurd (hf x z).2.1 (st.md x hx)
      · rw [if_neg z]; exact st.md x hx
  · have ha : (if a ∈ fp p b then H a else B.b a) = none := ha
    by_cases z : a ∈ fp p b
    · rw [if_pos z] at ha; exact absurd ha (dm a z)
    · rw [if_neg z] at ha; exact ⟨ha, z⟩
  · have up : ∀ {x : Addr}, B.b x ≠ none → (if x ∈ fp p b then H x else B.b x) = B.b x := fun {x} h => if_neg fun z => h (hf x z).2.1
    have nm : ∀ x ∈ fp p b, ¬ B.M x := fun x hx z => st.md x z (hf x hx).2.1
    have own : ∀ x ∈ fp p b, H2' x = H x ∧ H2 x = none ∧ ∀ (i : Nat) q b', Γ2[i]? = some (.own q b') → x ∉ fp q b' := fun x hx => by
      have hb : (if x ∈ fp p b then H x else B.b x) = H x := if_pos hx
      refine ⟨?_, ?_, fun i q b' hi hx' => ?_⟩
      · cases hh : H x with
        | none => exact absurd hh (dm x hx)
        | some u => exact s.keep x u (hb.trans hh) (nm x hx)
      · exact (s.old x (by show (if x ∈ fp p b then H x else B.b x) ≠ none; rw [hb]; exact dm x hx)).trans (st.b0.free (hf x hx).1)
      · obtain ⟨_, f2⟩ := s.fr i q b' hi x hx'
        rcases f2 with z | z
        · exact nm x hx z.1
        · exact dm x hx (hb.symm.trans z)
    refine ⟨⟨s.sl, s.ex, s.sep, fun i q b' hi x hx => ?_, s.b0, fun x hx => s.old x (by show (if x ∈ fp p b then H x else B.b x) ≠ none; rw [up hx]; exact hx), fun x u e1 e2 => s.keep x u ((up (ne_none_of e1)).trans e1) e2,
      fun x hx => s.dom x (by show (if x ∈ fp p b then H x else B.b x) ≠ none; rw [up hx]; exact hx), st.md⟩, ob.cong e fun x hx => (own x hx).1, fun x hx => ⟨(own x hx).2.1, (hf x hx).2.1, (own x hx).2.2⟩⟩
    obtain ⟨f1, f2⟩ := s.fr i q b' hi x hx
    refine ⟨f1, f2.imp id fun z => ?_⟩
    have z : (if x ∈ fp p b then H x else B.b x) = none := z
    by_cases y : x ∈ fp p b
    · exact (hf x y).2.1
    · rw [if_neg y] at z; exact z
end

/-! ### data or a new object -/
def SmOk (K : PySem.W.Frag) (B : Bs) (Γ : List Sl) (H0 H : Hp) (v : V) : Sl → Prop
  | .un => False
  | .dat d => Rp K H0 v d
  | .own p b => v = .ref p ∧ Frs K B Γ H0 H p b
def Wm (K : PySem.W.Frag) (te : TE) (Γ : List Sl) (Φ : Sl → Prop) : Prop :=
  ∀ B σ H0 H, St8 K B Γ σ H0 H → ∀ Q : VK, (∀ v r H0' H', St8 K B Γ σ H0' H' → Same H0 H0' → SmOk K B Γ H0' H' v r → Φ r → Q v H') → te σ H Q
def SmsOk (K : PySem.W.Frag) (B : Bs) (Γ : List Sl) (H0 H : Hp) : List V → List Sl → Prop
  | [], [] => True
  | v :: vs, r :: rs => SmOk K B Γ H0 H v r ∧ SmsOk K B Γ H0 H vs rs ∧ ∀ p b, r = .own p b → ∀ q b', Sl.own q b' ∈ rs → ∀ a, a ∈ fp p b → a ∉ fp q b'
  | _, _ => False
def WaM (K : PySem.W.Frag) (ta : TA) (Γ : List Sl) (Φ : List Sl → Prop) : Prop :=
  ∀ B σ H0 H, St8 K B Γ σ H0 H → ∀ Q : List V → Hp → Prop, (∀ vs rs H0' H', St8 K B Γ σ H0' H' → Same H0 H0' → SmsOk K B Γ H0' H' vs rs → Φ rs → Q vs H') → ta σ H Q
section
variable {K : PySem.W.Frag} {Γ : List Sl} {N Bk Ct : List Sl → Prop} {R : List Sl → Rv → Prop} {ta tb te : TE} {tr : TA} {g : TG} {Φ : Sl → Prop} {Φs : List Sl → Prop} {t : TS}
theorem wm_d (h : Wd K te Γ fun d => Φ (.dat d)) : Wm K te Γ Φ := fun B σ H0 H st Q k => h B σ H0 H st _ fun v d H1 H' s e r q => k v (.dat d) H1 H' s e r q
theorem wm_f (h : Wf K te Γ fun b => ∀ p, Φ (.own p b)) : Wm K te Γ Φ := fun B σ H0 H st Q k => h B σ H0 H st _ fun p b H1 H' s e r q => k _ (.own p b) H1 H' s e ⟨rfl, r⟩ (q p)
theorem smsOk_up {B B' : Bs} {H0 H : Hp} (hb : ∀ a, B'.b a = none → B.b a = none) : ∀ {vs : List V} {rs : List Sl}, SmsOk K B' Γ H0 H vs rs → SmsOk K B Γ H0 H vs rs
  | [], [], _ => trivial
  | [], _ :: _, h => h.elim
  | _ :: _, [], h => h.elim
  | v :: vs, r :: rs, ⟨h1, h2, h3⟩ => by
    refine ⟨?_, smsOk_up hb h2, h3⟩
    cases r with
    | un => exact h1.elim
    | dat d => exact h1
    | own p b => exact ⟨h1.1, h1.2.1, fun a ha => have q := h1.2.2 a ha; ⟨q.1, hb a q.2.1, q.2.2⟩⟩
theorem smsOk_mem {B : Bs} {H0 H : Hp} : ∀ {vs : List V} {rs : List Sl}, SmsOk K B Γ H0 H vs rs → ∀ q b', Sl.own q b' ∈ rs → Frs K B Γ H0 H q b'
  | [], [], _, _, _, h => by cases h
  | [], _ :: _, h, _, _, _ => h.elim
  | _ :: _, [], h, _, _, _ => h.elim
  | v :: vs, r :: rs, ⟨h1, h2, _⟩, q, b', h => by
    rcases List.mem_cons.mp h with z | z
    · subst z; exact h1.2
    · exact smsOk_mem h2 q b' z
theorem wam_nil (h : Φs []) : WaM K tNil Γ Φs := fun B σ H0 H st Q k => k [] [] _ _ st (Same.refl _) trivial h
theorem wam_cons (h : Wm K te Γ fun r => WaM K tr Γ fun rs => Φs (r :: rs)) : WaM K (tCons te tr) Γ Φs := fun B σ H0 H st Q k =>
  h B σ H0 H st _ fun v r H1 H1' s e rv q => by
    cases r with
    | un => exact rv.elim
    | dat d => exact q B σ H1 H1' s _ fun vs rs H2 H2' s2 e2 r2 q2 => k (v :: vs) (.dat d :: rs) _ _ s2 (e.trans e2) ⟨Rp.mono e2 _ _ rv, r2, fun p b z => (by cases z)⟩ q2
    | own p b =>
      obtain ⟨rfl, f⟩ := rv
      obtain ⟨B', s1, hb, back⟩ := f.overG s
      refine q B' σ H1 H1' s1 _ fun vs rs H2 H2' s2 e2 r2 q2 => ?_
      obtain ⟨s3, f3⟩ := back _ _ _ _ s2 e2
      exact k (.ref p :: vs) (.own p b :: rs) _ _ s3 (e.trans e2) ⟨⟨rfl, f3⟩, smsOk_up (fun a ha => (hb a ha).1) r2, fun p' b' z q c hm a ha ha' => by
        cases z
        exact (hb a ((smsOk_mem r2 q c hm).2 a ha').2.1).2 ha⟩ q2
theorem St8.setM {B : Bs} {σ : L2.St} {H0 H : Hp} {v : V} {r : Sl} (st : St8 K B Γ σ H0 H) (i : Nat) (h : SmOk K B Γ H0 H v r) : St8 K B (Γ.set i r) (σ.set i (some v)) H0 H := by
  cases r with
  | un => exact h.elim
  | dat d => exact st.setD i h
  | own p b => obtain ⟨rfl, f⟩ := h; exact st.setO i f
theorem smsOk_set {B : Bs} {H0 H : Hp} {v : V} {r : Sl} (i : Nat) : ∀ {vs : List V} {rs : List Sl}, SmsOk K B Γ H0 H (v :: vs) (r :: rs) → SmsOk K B (Γ.set i r) H0 H vs rs := fun {vs rs} h => by
  obtain ⟨h1, h2, h3⟩ := h
  have go : ∀ {vs : List V} {rs' : List Sl}, (∀ x, x ∈ rs' → x ∈ rs) → SmsOk K B Γ H0 H vs rs' → SmsOk K B (Γ.set i r) H0 H vs rs' := by
    intro vs rs'
    induction rs' generalizing vs with
    | nil => intro _ q; cases vs with
      | nil => trivial
      | cons _ _ => exact q.elim
    | cons x xs ih =>
      intro hm q
      cases vs with
      | nil => exact q.elim
      | cons v vs =>
        obtain ⟨q1, q2, q3⟩ := q
        refine ⟨?_, ih (fun y hy => hm y (List.mem_cons_of_mem _ hy)) q2, q3⟩
        cases x with
        | un => exact q1.elim
        | dat d => exact q1
        | own p b =>
          refine ⟨q1.1, q1.2.1, fun a ha => ⟨(q1.2.2 a ha).1, (q1.2.2 a ha).2.1, fun j q c hj => ?_⟩⟩
          rcases getset hj with ⟨_, z, _⟩ | ⟨_, hj⟩
          · exact fun hq => h3 q c z.symm p b (hm _ List.mem_cons_self) a hq ha
          · exact (q1.2.2 a ha).2.2 j q c hj
  exact go (fun _ z => z) h2
theorem ws_parM {i j : Nat} (h : WaM K tr Γ fun rs => ∃ x y, rs = [x, y] ∧ N ((Γ.set i x).set j y)) : Ws K (tPar i j tr) Γ N R Bk Ct := fun B σ H0 H D st kn _ _ _ =>
  h B σ H0 H st _ fun vs rs H1 H1' s e r q => by
    obtain ⟨x, y, rfl, q⟩ := q
    rcases vs with _ | ⟨v, _ | ⟨w, _ | ⟨_, _⟩⟩⟩
    · exact r.elim
    · exact r.2.1.elim
    · exact ⟨v, w, rfl, kn _ _ _ _ ((s.setM i r.1).setM j (smsOk_set i r).1) e q⟩
    · exact r.2.1.2.1.elim
theorem ws_parM3 {i j l : Nat} (h : WaM K tr Γ fun rs => ∃ x y z, rs = [x, y, z] ∧ N (((Γ.set i x).set j y).set l z)) : Ws K (tPar3 i j l tr) Γ N R Bk Ct := fun B σ H0 H D st kn _ _ _ =>
  h B σ H0 H st _ fun vs rs H1 H1' s e r q => by
    obtain ⟨x, y, z, rfl, q⟩ := q
    rcases vs with _ | ⟨v, _ | ⟨w, _ | ⟨u, _ | ⟨_, _⟩⟩⟩⟩
    · exact r.elim
    · exact r.2.1.elim
    · exact r.2.1.2.1.elim
    · have r2 := smsOk_set i r
      exact ⟨v, w, u, rfl, kn _ _ _ _ (((s.setM i r.1).setM j r2.1).setM l (smsOk_set j r2).1) e q⟩
    · exact r.2.1.2.1.2.1.elim
theorem ws_setM {i : Nat} (h : Wm K te Γ fun x => N (Γ.set i x)) : Ws K (tAsg te (gName i)) Γ N R Bk Ct := fun B σ H0 H D st kn _ _ _ =>
  h B σ H0 H st _ fun v d H0' H' s e r q => kn _ _ _ _ (s.setM i r) e q

/-! ### lists of lists -/
theorem ws_frzL (i : Nat) {p : Addr} {qs : List Addr} {rows : List (List PyData)} (h : Γ[i]? = some (.own p (.ll qs rows))) (q : Ws K t (Γ.set i (.dat (.list (rows.map .list)))) N R Bk Ct) : Ws K t Γ N R Bk Ct := fun B σ H0 H D st kn kr kb kc => by
  obtain ⟨H0', e, st'⟩ := st.frzL h
  exact q B σ H0' H D st' (fun Γ2 σ2 H2 H2' s2 e2 q2 => kn _ _ _ _ s2 (e.trans e2) q2) (fun v r Γ2 σ2 H2 H2' s2 e2 r2 q2 => kr _ _ _ _ _ _ s2 (e.trans e2) r2 q2)
    (fun Γ2 σ2 H2 H2' s2 e2 q2 => kb _ _ _ _ s2 (e.trans e2) q2) (fun Γ2 σ2 H2 H2' s2 e2 q2 => kc _ _ _ _ s2 (e.trans e2) q2)
/-- [[] for .. in ..] -/
theorem wf_lcE {wi : TI} {vs : List Nat} {ΦO : Ob → Prop} (hv : ∀ i, i ∈ vs → ∀ p b, Γ[i]? ≠ some (.own p b))
    (h : Wi K wi Γ fun ds => ds.length ≤ sizeLine ∧ (∀ (k : Nat) d, ds[k]? = some d → Wg K (fun j => j ∈ vs) g d (wipeG Γ vs) fun _ => True) ∧ ∀ qs, qs.length = ds.length → ΦO (.ll qs (List.replicate ds.length []))) : Wf K (tLc wi g tYes (tLst tNil) vs) Γ ΦO := fun B σ H0 H st Q kk =>
  h B σ H0 H st _ fun J ds Hs H1 s e w q D hD => by
    obtain ⟨hz, it, id⟩ := q
    obtain ⟨G, Y, wk, wg, wy⟩ := w
    have sw := (s.new (o := .lst []) hD).wiped vs
    have fr0 : Frs K B (wipeG Γ vs) Hs (upd H1 D (.lst [])) D (.ll [] (List.replicate 0 [])) := (s.wiped vs).frs (b := .ll [] []) hD rfl ⟨upd_same, by simp, rfl, fun i q r h => by simp at h⟩
    have hlen := s.lenG
    refine L2.lc_it wk (fun k H' => ∃ H0' qs, St8 K B (wipeG Γ vs) (wipe σ vs) H0' H' ∧ Same Hs H0' ∧ Frs K B (wipeG Γ vs) H0' H' D (.ll qs (List.replicate k [])) ∧ qs.length = k)
      ⟨Hs, [], sw, Same.refl _, fr0, rfl⟩ (fun k H' _ ⟨H0', qs, s', e', _⟩ => wg _ _ _ _ _ s' e') (fun k x H' H2 hk ⟨H0', qs, s', e', f', hl⟩ y => ?_)
      (fun H' ⟨H0', qs, s', e', f', hl⟩ => ?_)
    · obtain ⟨B', sh, hb, back⟩ := f'.overG s'
      obtain ⟨d, H02, hd, s2, e2, r2⟩ := wy _ _ _ _ _ _ _ _ sh e' hk y
      refine it k d hd B' x (wipe σ vs) H02 H2 s2 r2 _ fun Γ3 σ3 H03 H3 s3 e3 l3 j3 _ => ⟨?_, ?_⟩
      · have := wipe_eq (vs := vs) (σ := wipe σ vs) (σ2 := σ3) l3 fun j hj => (j3 j hj).1
        rw [this]
        exact wipe_eq (wipe_length _ _) fun j hj => wipe_at hj
      · dsimp only [tYes]
        rw [if_pos rfl]
        refine ⟨Nat.zero_le _, fun p hp => ?_⟩
        have s4 := s3.new (o := .lst []) hp
        obtain ⟨s6, ⟨g1, g2, g3, g4⟩, gf⟩ := back _ _ _ _ s4 (e2.trans e3)
        have f3 := (back _ _ _ _ s3 (e2.trans e3)).2
        have fp0 : ∀ a ∈ D :: qs, H3 a ≠ none := f3.1.dom
        have pn : p ∉ D :: qs := fun z => fp0 p z hp
        have hk' : k < ds.length := hk
        refine ⟨qs.map V.ref, g1, by rw [List.length_map]; omega, H03, qs ++ [p], ?_, (e'.trans e2).trans e3, ⟨⟨?_, ?_, ?_, fun i q r hq hr => ?_⟩, fun a ha => ?_⟩, by rw [List.length_append, hl]; rfl⟩
        · exact (s6.off (gf D List.mem_cons_self).1 (gf D List.mem_cons_self).2.1 (gf D List.mem_cons_self).2.2).rewipe hlen l3 j3
        · rw [List.map_append]; exact upd_same
        · rw [← List.cons_append]
          exact List.nodup_append.mpr ⟨g2, by simp, fun a ha c hc => by rw [List.mem_singleton.mp hc]; exact fun z => pn (z ▸ ha)⟩
        · simp [hl]
        · have nD : q ≠ D := fun z => by
            have hq' := List.mem_of_getElem? hq
            rcases List.mem_append.mp hq' with m | m
            · exact (List.nodup_cons.mp g2).1 (z ▸ m)
            · exact pn (by rw [← List.mem_singleton.mp m, z]; exact List.mem_cons_self)
          have hr' : r = [] := by
            have := List.mem_of_getElem? hr
            exact List.eq_of_mem_replicate this
          subst hr'
          rw [upd_ne nD]
          by_cases hi : i < qs.length
          · rw [List.getElem?_append_left hi] at hq
            exact g4 i q [] hq (by rw [List.getElem?_replicate, if_pos (by omega)])
          · rw [List.getElem?_append_right (by omega)] at hq
            have hq2 := List.mem_of_getElem? hq
            rw [List.mem_singleton.mp hq2]
            exact ⟨[], upd_same, .nil⟩
        · have ha : a ∈ D :: (qs ++ [p]) := ha
          rw [← List.cons_append] at ha
          have nw : ∀ (i : Nat) q b', (∀ j, j ∉ vs → Γ3[j]? = (wipeG Γ vs)[j]?) → (∀ (i : Nat) q b', Γ3[i]? = some (.own q b') → a ∉ fp q b') → (wipeG Γ vs)[i]? = some (.own q b') → a ∉ fp q b' := fun i q b' hj hh hi => by
            by_cases hiv : i ∈ vs
            · have z := wipeG_in hiv hi
              cases z
            · exact hh i q b' ((hj i hiv).trans hi)
          rcases List.mem_append.mp ha with m | m
          · exact ⟨(gf a m).1, (gf a m).2.1, fun i q b' => nw i q b' (fun j hj => (j3 j hj).2) (gf a m).2.2⟩
          · rw [List.mem_singleton.mp m]
            refine ⟨s3.free0 hp, (hb p (s3.freeB hp)).1, fun i q b' hi => ?_⟩
            rw [← List.mem_singleton.mp m]
            exact nw i q b' (fun j hj => (j3 j hj).2) (fun i q b' hi => by rw [List.mem_singleton.mp m]; exact s3.notO hp hi) hi
    · refine kk D _ _ _ (s.unwipe s' e' hv) (e.trans e') ⟨f'.1, fun a ha => ⟨(f'.2 a ha).1, (f'.2 a ha).2.1, fun i q b' hi => ?_⟩⟩ (id qs hl)
      by_cases hiv : i ∈ vs
      · exact absurd hi (hv i hiv q b')
      · exact (f'.2 a ha).2.2 i q b' (by rw [wipeG_at hiv]; exact hi)
/-- xs[k].append(e) -/
theorem ws_appRow {i : Nat} {p : Addr} {qs : List Addr} {rows : List (List PyData)} (hi : Γ[i]? = some (.own p (.ll qs rows)))
    (h : Wd K tb Γ fun y => ∃ k n row, y = .int k ∧ ixN rows.length k = some n ∧ rows[n]? = some row ∧ row.length < sizeLine ∧ Wd K te Γ fun d => N (Γ.set i (.own p (.ll qs (rows.set n (row ++ [d])))))) :
    Ws K (tDrop (tBM K "list" rAppend (tOp (rIx K) (tVar i) tb) (tCons te tNil))) Γ N R Bk Ct := fun B σ H0 H D st kn _ _ _ => by
  obtain ⟨o, e1, rfl, ho⟩ := st.sl i _ hi
  refine ⟨_, e1, h B σ H0 H st _ fun v d H1 H1' s e r q => ?_⟩
  obtain ⟨k, n, row, rfl, hn, hrow, hz, q⟩ := q
  cases r
  obtain ⟨g1, g2, g3, g4⟩ := s.domO hi
  have hnl : n < qs.length := by rw [g3]; exact (List.getElem?_eq_some_iff.mp hrow).1
  have hq : qs[n]? = some qs[n] := List.getElem?_eq_getElem hnl
  have hat : L2.atI (qs.map V.ref) k = some (.ref qs[n]) := by
    unfold L2.atI
    rw [List.length_map, g3, hn]
    simp [hq]
  obtain ⟨ys, g5, g6⟩ := g4 n _ row hq hrow
  refine .inl ⟨p, _, k, _, rfl, rfl, SqL.of g1, hat, ?_⟩
  refine ⟨.inl ⟨rfl, ys, SqL.of g5⟩, q B σ H1 H1' s _ fun w d H2 H2' s2 e2 r2 q2 => ?_⟩
  obtain ⟨k1, k2, k3, k4⟩ := s2.domO hi
  obtain ⟨zs, k5, k6⟩ := k4 n _ row hq hrow
  refine ⟨qs[n], zs, w, rfl, rfl, k5, by rw [k6.length]; exact hz, ?_⟩
  have hm : qs[n] ∈ qs := List.getElem_mem hnl
  have np : p ≠ qs[n] := fun z => (List.nodup_cons.mp k2).1 (z ▸ hm)
  refine kn _ _ _ _ (s2.chgG (b' := .ll qs (rows.set n (row ++ [d]))) hi (List.mem_cons_of_mem _ hm) rfl (fun z => z) ⟨by rw [upd_ne np]; exact k1, k2, by rw [List.length_set]; exact k3, fun j c r hc hr => ?_⟩) (e.trans e2) q2
  rcases getset hr with ⟨rfl, rfl, _⟩ | ⟨hne, hr⟩
  · rw [hq] at hc
    cases hc
    exact ⟨_, upd_same, k6.append (.one r2)⟩
  · rw [upd_ne (fun z => ?_)]
    · exact k4 j c r hc hr
    · have nd := (List.nodup_cons.mp k2).2
      obtain ⟨hj, hc'⟩ := List.getElem?_eq_some_iff.mp hc
      exact hne ((List.getElem_inj nd).mp (z.symm.trans hc'.symm))
/-- xs[k] as a target -/
theorem wg_item {vs : Nat → Prop} {i : Nat} {p : Addr} {ds : List PyData} {d : PyData} (hv : vs i) (hi : Γ[i]? = some (.own p (.lst ds))) (h : Wd K tb Γ fun y => ∃ k n, y = .int k ∧ ixN ds.length k = some n ∧ N (Γ.set i (.own p (.lst (ds.set n d))))) :
    Wg K vs (gSub (tVar i) tb rSetL) d Γ N := fun B v σ H0 H st r Q kk => by
  obtain ⟨o, e1, rfl, ho⟩ := st.sl i _ hi
  refine ⟨_, e1, h B σ H0 H st _ fun v2 d2 H2 H2' s2 e2 r2 q2 => ?_⟩
  obtain ⟨k, n, rfl, hn, q2⟩ := q2
  cases r2
  obtain ⟨xs, h1, h2⟩ := s2.domO hi
  refine ⟨p, xs, k, n, rfl, rfl, h1, by rw [h2.length]; exact hn, kk _ _ _ _ (s2.chgL hi (h2.set n (Rp.mono e2 _ _ r))) e2 rfl (fun j hj => ⟨rfl, List.getElem?_set_ne fun z => hj (by rw [← z]; exact hv)⟩) q2⟩
end
end Z
namespace Z
open PySem PySem.Spec PyProof.Rows L2

def keyD : Key → PyData
  | .inl i => .int i
  | .inr x => .str x
section
variable {K : PySem.W.Frag} {H : Hp}
theorem rp_key {v : V} {k : Key} (r : Rp K H v (keyD k)) : v = kV k := by
  cases k with
  | inl i => cases r; rfl
  | inr x => cases r; rfl
theorem rpa_keys : ∀ {vs : List V} {ks : List Key}, RpA K H vs (ks.map keyD) → vs = ks.map kV
  | _, [], .nil => rfl
  | _, k :: ks, .cons h t => by rw [rp_key h, rpa_keys t]; rfl
theorem rp_keys {v : V} {ks : List Key} (r : Rp K H v (.tuple (ks.map keyD))) : ∃ b, v = .ref b ∧ H b = some (.tup (ks.map kV)) := by
  cases r with
  | tup h1 h2 => rw [rpa_keys h2] at h1; exact ⟨_, rfl, h1⟩
theorem RpO.get {o : Option V} {d : PyData} (r : RpO K H o (some d)) : ∃ v, o = some v ∧ Rp K H v d := by
  cases o with
  | none => exact r.elim
  | some v => exact ⟨v, rfl, r⟩
theorem RpO.some? {o : Option V} {r : Option PyData} (h : RpO K H o r) : o.isSome = r.isSome := by
  cases o <;> cases r <;> first | rfl | exact h.elim
end
section
variable {K : PySem.W.Frag} {Γ : List Sl} {N Bk Ct : List Sl → Prop} {R : List Sl → Rv → Prop} {ta tb te ty tv tk : TE} {tr : TA} {Φ : PyData → Prop} {ΦO : Ob → Prop} {i : Nat} {p : Addr} {n : Nat}
theorem wf_dnewK (h : ΦO (.dk 0 fun _ => none)) : Wf K tDNewK Γ ΦO := fun B σ H0 H st Q k p hp =>
  k p (.dk 0 fun _ => none) _ _ (st.new hp) (Same.refl _) (st.frs hp rfl ⟨[], upd_same, Nat.le_refl _, fun _ => trivial⟩) h
theorem wf_dnewT (h : ΦO (.dt 0 fun _ => none)) : Wf K tDNewT Γ ΦO := fun B σ H0 H st Q k p hp =>
  k p (.dt 0 fun _ => none) _ _ (st.new hp) (Same.refl _) (st.frs hp rfl ⟨[], upd_same, Nat.le_refl _, fun _ => trivial⟩) h
/-- {k: v} -/
theorem wf_disp1 (h : Wd K tk Γ fun x => Wd K tv Γ fun y => ∃ k : Key, x = keyD k ∧ ΦO (.dk 1 fun j => if j = k then some y else none)) : Wf K (tDisp [(tk, tv)]) Γ ΦO := fun B σ H0 H st Q kk p hp => by
  have f0 : Frs K B Γ H0 (upd H p (.dK [])) p (.dk 0 fun _ => none) := st.frs hp rfl ⟨[], upd_same, Nat.le_refl _, fun _ => trivial⟩
  have st1 := st.new (o := .dK []) hp
  obtain ⟨B', s1, hb, back⟩ := f0.overG st1
  show tk σ _ _
  refine h B' σ H0 _ s1 _ fun v d H1 H1' s2 e2 r2 q2 => q2 B' σ H1 H1' s2 _ fun w y H2 H2' s3 e3 r3 q3 => ?_
  obtain ⟨k, rfl, q3⟩ := q3
  have hv := rp_key (Rp.mono e3 _ _ r2)
  subst hv
  obtain ⟨s4, ⟨ws, g1, g2, g3⟩, gf⟩ := back _ _ _ _ s3 (e2.trans e3)
  have hk : B'.b p ≠ none := fun z => (hb p z).2 (by simp [fp])
  have hw : ws = [] := List.length_eq_zero_iff.mp (Nat.le_zero.mp g2)
  subst hw
  obtain ⟨f1, f2, f3⟩ := gf p (by simp [fp])
  refine ⟨g1, [(k, w)], rfl, by simp, kk p (.dk 1 fun j => if j = k then some y else none) _ _ (s4.off f1 f2 f3) (e2.trans e3) ⟨⟨_, upd_same, length_mergeK _ _, fun j => ?_⟩, fun a ha => ?_⟩ q3⟩
  · show RpO K H2 (valV (putK [] k w) j) (if j = k then some y else none)
    rw [valV_put]
    by_cases z : j = k
    · rw [if_pos z, if_pos z]; exact r3
    · rw [if_neg z, if_neg z]; exact trivial
  · have : a = p := by simpa [fp] using ha
    subst this
    exact ⟨f1, f2, f3⟩
theorem wd_dgetK {f : Key → Option PyData} (hi : Γ[i]? = some (.own p (.dk n f))) (h : Wd K ty Γ fun y => ∃ k d, y = keyD k ∧ f k = some d ∧ Φ d) : Wd K (tDGet (tVar i) ty) Γ Φ := fun B σ H0 H st Q kk => by
  obtain ⟨o, e1, rfl, _⟩ := st.sl i _ hi
  refine ⟨_, e1, h B σ H0 H st _ fun v d H1 H1' s e r q => ?_⟩
  obtain ⟨k, d, rfl, hd, q⟩ := q
  obtain ⟨ws, g1, _, g3⟩ := s.domO hi
  have g4 := g3 k
  rw [hd] at g4
  obtain ⟨w, hw, rw'⟩ := g4.get
  exact ⟨p, w, rfl, by rw [rp_key r, ← hw]; exact DGet.k g1, kk _ _ _ _ s e rw' q⟩
theorem wd_dgetT {f : List Key → Option PyData} (hi : Γ[i]? = some (.own p (.dt n f))) (h : Wd K ty Γ fun y => ∃ ks d, y = .tuple (ks.map keyD) ∧ f ks = some d ∧ Φ d) : Wd K (tDGet (tVar i) ty) Γ Φ := fun B σ H0 H st Q kk => by
  obtain ⟨o, e1, rfl, _⟩ := st.sl i _ hi
  refine ⟨_, e1, h B σ H0 H st _ fun v d H1 H1' s e r q => ?_⟩
  obtain ⟨k, d, rfl, hd, q⟩ := q
  obtain ⟨ws, g1, _, g3⟩ := s.domO hi
  have g4 := g3 k
  rw [hd] at g4
  obtain ⟨w, hw, rw'⟩ := g4.get
  obtain ⟨b, rfl, hb⟩ := rp_keys r
  exact ⟨p, w, rfl, by rw [← hw]; exact DGet.t g1 (s.ex _ _ hb), kk _ _ _ _ s e rw' q⟩
theorem in_aux {tt : TE} {g : Bool → PyData} (neg : Bool) (ht : tt = cond neg (tDNotIn ty (tVar i)) (tDIn ty (tVar i)))
    (h : Wd K ty Γ fun y => (∃ (f : Key → Option PyData) (k : Key), Γ[i]? = some (.own p (.dk n f)) ∧ y = keyD k ∧ Φ (.bool (xor neg (f k).isSome))) ∨ ∃ (f : List Key → Option PyData) (k : List Key), Γ[i]? = some (.own p (.dt n f)) ∧ y = .tuple (k.map keyD) ∧ Φ (.bool (xor neg (f k).isSome))) : Wd K tt Γ Φ := fun B σ H0 H st Q kk => by
  have go : ∀ v d H1 H1', St8 K B Γ σ H1 H1' → Same H0 H1 → Rp K H1 v d → ((∃ (f : Key → Option PyData) (k : Key), Γ[i]? = some (.own p (.dk n f)) ∧ d = keyD k ∧ Φ (.bool (xor neg (f k).isSome))) ∨ ∃ (f : List Key → Option PyData) (k : List Key), Γ[i]? = some (.own p (.dt n f)) ∧ d = .tuple (k.map keyD) ∧ Φ (.bool (xor neg (f k).isSome))) →
      tVar i σ H1' fun x H2 => ∃ a o, x = .ref a ∧ DGet H2 a v o ∧ Q (.bl (xor neg o.isSome)) H2 := fun v d H1 H1' s e r q => by
    rcases q with ⟨f, k, hi, rfl, q⟩ | ⟨f, k, hi, rfl, q⟩
    · obtain ⟨o, e1, rfl, ws, g1, _, g3⟩ := s.sl i _ hi
      rw [rp_key r]
      exact ⟨_, e1, p, _, rfl, DGet.k g1, kk _ (.bool (xor neg (f k).isSome)) _ _ s e (by rw [(g3 k).some?]; exact .bl _) q⟩
    · obtain ⟨o, e1, rfl, ws, g1, _, g3⟩ := s.sl i _ hi
      obtain ⟨b, rfl, hb⟩ := rp_keys r
      exact ⟨_, e1, p, _, rfl, DGet.t g1 (s.ex _ _ hb), kk _ (.bool (xor neg (f k).isSome)) _ _ s e (by rw [(g3 k).some?]; exact .bl _) q⟩
  subst ht
  cases neg with
  | true =>
    refine h B σ H0 H st _ fun v d H1 H1' s e r q => ?_
    have := go v d H1 H1' s e r q
    simpa using this
  | false =>
    refine h B σ H0 H st _ fun v d H1 H1' s e r q => ?_
    have := go v d H1 H1' s e r q
    simpa using this
theorem wd_dinK {f : Key → Option PyData} (hi : Γ[i]? = some (.own p (.dk n f))) (h : Wd K ty Γ fun y => ∃ k, y = keyD k ∧ Φ (.bool (f k).isSome)) : Wd K (tDIn ty (tVar i)) Γ Φ :=
  in_aux (p := p) (n := n) (g := .bool) false rfl (h.imp fun d ⟨k, h1, h2⟩ => .inl ⟨f, k, hi, h1, by simpa using h2⟩)
theorem wd_dnotinK {f : Key → Option PyData} (hi : Γ[i]? = some (.own p (.dk n f))) (h : Wd K ty Γ fun y => ∃ k, y = keyD k ∧ Φ (.bool (!(f k).isSome))) : Wd K (tDNotIn ty (tVar i)) Γ Φ :=
  in_aux (p := p) (n := n) (g := .bool) true rfl (h.imp fun d ⟨k, h1, h2⟩ => .inl ⟨f, k, hi, h1, by simpa using h2⟩)
theorem wd_dinT {f : List Key → Option PyData} (hi : Γ[i]? = some (.own p (.dt n f))) (h : Wd K ty Γ fun y => ∃ k : List Key, y = .tuple (k.map keyD) ∧ Φ (.bool (f k).isSome)) : Wd K (tDIn ty (tVar i)) Γ Φ :=
  in_aux (p := p) (n := n) (g := .bool) false rfl (h.imp fun d ⟨k, h1, h2⟩ => .inr ⟨f, k, hi, h1, by simpa using h2⟩)
theorem wd_dnotinT {f : List Key → Option PyData} (hi : Γ[i]? = some (.own p (.dt n f))) (h : Wd K ty Γ fun y => ∃ k : List Key, y = .tuple (k.map keyD) ∧ Φ (.bool (!(f k).isSome))) : Wd K (tDNotIn ty (tVar i)) Γ Φ :=
  in_aux (p := p) (n := n) (g := .bool) true rfl (h.imp fun d ⟨k, h1, h2⟩ => .inr ⟨f, k, hi, h1, by simpa using h2⟩)
theorem ws_dputK {f : Key → Option PyData} (hi : Γ[i]? = some (.own p (.dk n f))) (hz : n < sizeLine) (h : Wd K tv Γ fun d => Wd K ty Γ fun y => ∃ k, y = keyD k ∧ N (Γ.set i (.own p (.dk (n + 1) fun j => if j = k then some d else f j)))) :
    Ws K (sDPut (tVar i) ty tv) Γ N R Bk Ct := fun B σ H0 H D st kn _ _ _ =>
  h B σ H0 H st _ fun v d H1 H1' s e r q => by
    obtain ⟨o, e1, rfl, _⟩ := s.sl i _ hi
    refine ⟨_, e1, q B σ H1 H1' s _ fun w y H2 H2' s2 e2 r2 q2 => ?_⟩
    obtain ⟨k, rfl, q2⟩ := q2
    obtain ⟨ws, g1, g2, g3⟩ := s2.domO hi
    refine ⟨p, _, rfl, by rw [rp_key r2]; exact DPut.k g1 (by omega), kn _ _ _ _ (s2.chg (b' := .dk (n + 1) fun j => if j = k then some d else f j) hi rfl rfl (fun z => z) ⟨_, upd_same, Nat.le_trans (length_putK ws k v) (Nat.succ_le_succ g2), fun j => ?_⟩) (e.trans e2) q2⟩
    show RpO K H2 _ (if j = k then some d else f j)
    rw [valV_put]
    by_cases z : j = k
    · rw [if_pos z, if_pos z]; exact Rp.mono e2 _ _ r
    · rw [if_neg z, if_neg z]; exact g3 j
theorem ws_dputT {f : List Key → Option PyData} (hi : Γ[i]? = some (.own p (.dt n f))) (hz : n < sizeLine) (h : Wd K tv Γ fun d => Wd K ty Γ fun y => ∃ k : List Key, y = .tuple (k.map keyD) ∧ N (Γ.set i (.own p (.dt (n + 1) fun j => if j = k then some d else f j)))) :
    Ws K (sDPut (tVar i) ty tv) Γ N R Bk Ct := fun B σ H0 H D st kn _ _ _ =>
  h B σ H0 H st _ fun v d H1 H1' s e r q => by
    obtain ⟨o, e1, rfl, _⟩ := s.sl i _ hi
    refine ⟨_, e1, q B σ H1 H1' s _ fun w y H2 H2' s2 e2 r2 q2 => ?_⟩
    obtain ⟨k, rfl, q2⟩ := q2
    obtain ⟨ws, g1, g2, g3⟩ := s2.domO hi
    obtain ⟨b, rfl, hb⟩ := rp_keys r2
    refine ⟨p, _, rfl, DPut.t g1 (s2.ex _ _ hb) (by omega), kn _ _ _ _ (s2.chg (b' := .dt (n + 1) fun j => if j = k then some d else f j) hi rfl rfl (fun z => z) ⟨_, upd_same, Nat.le_trans (length_putK ws k v) (Nat.succ_le_succ g2), fun j => ?_⟩) (e.trans e2) q2⟩
    show RpO K H2 _ (if j = k then some d else f j)
    rw [valV_put]
    by_cases z : j = k
    · rw [if_pos z, if_pos z]; exact Rp.mono e2 _ _ r
    · rw [if_neg z, if_neg z]; exact g3 j

/-! ### max, reversed copies, list(range(n)) -/
def maxI : List Int → Int
  | [] => 0
  | [a] => a
  | a :: b :: r => max a (maxI (b :: r))
theorem maxI_ge : ∀ {ns : List Int} {a : Int}, a ∈ ns → a ≤ maxI ns
  | [a], x, h => by
    have : x = a := by simpa using h
    rw [this]; exact Int.le_refl _
  | a :: b :: r, x, h => by
    show x ≤ max a (maxI (b :: r))
    rcases List.mem_cons.mp h with z | z
    · rw [z]; exact Int.le_max_left _ _
    · exact Int.le_trans (maxI_ge z) (Int.le_max_right _ _)
theorem maxI_mem : ∀ {ns : List Int}, ns ≠ [] → maxI ns ∈ ns
  | [], h => absurd rfl h
  | [a], _ => List.mem_cons_self
  | a :: b :: r, _ => by
    show max a (maxI (b :: r)) ∈ _
    have ih := maxI_mem (ns := b :: r) (by simp)
    by_cases z : a ≤ maxI (b :: r)
    · rw [Int.max_eq_right z]; exact List.mem_cons_of_mem _ ih
    · rw [Int.max_eq_left (by omega)]; exact List.mem_cons_self
theorem maxI_is {ns : List Int} {m : Int} (h : m ∈ ns) (h2 : ∀ y, y ∈ ns → y ≤ m) : m = maxI ns := by
  have h3 : ns ≠ [] := fun z => by rw [z] at h; cases h
  have h4 := h2 _ (maxI_mem h3)
  have h5 := maxI_ge h
  omega
theorem wd_maxL (h : Wr K ta Γ fun d => ∃ ns : List Int, d = .list (ns.map .int) ∧ ns ≠ [] ∧ Φ (.int (maxI ns))) : Wd K (tCB (rMax K) (tCons ta tNil)) Γ Φ := fun B σ H0 H st Q k =>
  h B σ H0 H st _ fun v d H1 H' s e r q => by
    obtain ⟨ns, rfl, hn, q⟩ := q
    obtain ⟨a, xs, rfl, h1, h2⟩ := r.lst s
    rw [h2.ints_inv] at h1
    exact ⟨a, ns, rfl, SqL.of h1, List.length_pos_iff.mpr hn, fun m hm hu => by rw [maxI_is hm hu]; exact k _ _ _ _ s e (.int _) q⟩
def rMaxT (K : PySem.W.Frag) : List V → Hp → VK → Prop := fun vs H Q => ∃ (a : Addr) (ns : List Int), vs = [V.ref a] ∧ SqT K H a (ns.map V.int) ∧ ns ≠ [] ∧ Q (.int (maxI ns)) H
theorem cr_maxT {X : Cx} (hc : X.calm = true) : CallR X (.builtin "max") (rMaxT X.K) := by
  intro pins s σ H vs us Q I r h
  obtain ⟨a, ns, rfl, hs, hne, q⟩ := h
  obtain ⟨its, rv, pt, _⟩ := I.tuple hs
  rw [Vals.ref1 r]
  have pt : s.heap.IsTuple a its.toArray := pt
  have hi := rv.ints
  obtain ⟨xs, e⟩ := hi.allInts.items
  have hn : numsOf (intItems xs).toList = ns := by rw [← e]; exact hi.numsOf
  rw [nums_intItems] at hn
  subst hn
  rw [e] at pt
  have hsz : 0 < xs.size := by
    have := List.length_pos_iff.mpr hne
    simpa using this
  have la : a < s.heap.objs.size := by obtain ⟨_, y, _⟩ := pt; exact Heap.lt_size y
  have ne : a ≠ s.heap.objs.size := Nat.ne_of_lt la
  refine call_max_walk (wpAny_pyIter_tuple pt ⟨_, _, _, _, _, _, _, rfl, Walks.tuple (A := X.A.in1) (I.ok.hd hc) s.heap.objs.size a ne (intItems xs), ⟨⟨_, Heap.get?_push_size _ rfl, rfl, rfl⟩, pt.push _⟩, fun b hb => ?_, by simpa [intItems] using hsz, CmpOf.ints_gt (numAt xs) (fun _ _ => intItems_at), fun v h' tk hP hk => ?_⟩)
  · show b < (s.heap.push _).objs.size
    rw [Heap.size_push]
    rcases List.mem_cons.mp hb with z | z
    · rw [z]; exact Nat.lt_succ_self _
    · rw [List.mem_singleton.mp z]; exact Nat.lt_succ_of_lt la
  · have hP' : (intItems xs)[argBest (fun i j => decide (numAt xs i > numAt xs j)) (xs.size - 1)]? = some v := by simpa [intItems] using hP
    obtain ⟨t, rfl⟩ := intItems_at hP'
    obtain ⟨h1, h2⟩ := argBest_gt (numAt xs) (xs.size - 1)
    have em : numAt xs (argBest (fun i j => decide (numAt xs i > numAt xs j)) (xs.size - 1)) = maxI (xs.toList.map (·.1)) := by
      refine maxI_is ?_ fun y hy => ?_
      · rw [numAt_eq]; exact PySem.getD_mem (by rw [List.length_map, Array.length_toList]; omega)
      · obtain ⟨j, hj, rfl⟩ := mem_getD hy
        rw [List.length_map, Array.length_toList] at hj
        rw [← numAt_eq]; exact h2 j (by omega)
    refine ⟨.int _, H, I.kept (t' := tk) fun b o z => hk b o (fun hb => ?_) (Heap.get?_push_of_some _ z), ⟨t, rfl⟩, ?_⟩
    · have : b = s.heap.objs.size := by simpa using hb
      exact Nat.lt_irrefl _ (this ▸ Heap.lt_size z)
    · rw [em]; exact q
theorem wd_maxT (h : Wd K ta Γ fun d => ∃ ns : List Int, d = .tuple (ns.map .int) ∧ ns ≠ [] ∧ Φ (.int (maxI ns))) : Wd K (tCB (rMaxT K) (tCons ta tNil)) Γ Φ := fun B σ H0 H st Q k =>
  h B σ H0 H st _ fun v d H1 H' s e r q => by
    obtain ⟨ns, rfl, hn, q⟩ := q
    cases r with
    | tup h1 h2 =>
      rw [h2.ints_inv] at h1
      exact ⟨_, ns, rfl, SqT.of (s.ex _ _ h1), hn, k _ _ _ _ s e (.int _) q⟩
theorem wf_rev (h : Wr K ta Γ fun d => ∃ ds, d = .list ds ∧ ΦO (.lst ds.reverse)) : Wf K (tRevL K ta) Γ ΦO := fun B σ H0 H st Q k =>
  h B σ H0 H st _ fun v d H1 H' s e r q => by
    obtain ⟨ds, rfl, q⟩ := q
    obtain ⟨a, xs, rfl, h1, h2⟩ := r.lst s
    exact ⟨a, xs, rfl, SqL.of h1, fun p hp => k _ _ _ _ (s.new hp) e (s.frsL hp h2.reverse) q⟩
theorem wf_lrg (h : Wd K ta Γ fun x => ∃ n : Nat, x = .int n ∧ n ≤ 2 ^ 24 ∧ ΦO (.lst (rangeD 0 n))) : Wf K (tLstRg (tRg1 ta)) Γ ΦO := fun B σ H0 H st Q k =>
  h B σ H0 H st _ fun v d H1 H' s e r q => by
    obtain ⟨n, rfl, hn, q⟩ := q
    cases r
    refine ⟨n, rfl, RgOk.of_le (by omega) (by omega) (by omega) (by omega), fun p hp => k _ _ _ _ (s.new hp) e (s.frsL hp ?_) q⟩
    refine RpA.of_get (by simp [rgV, rangeD]) fun i v d h1 h2 => ?_
    obtain ⟨hi, rfl⟩ := rangeD_get h2
    have h3 : (rgV 0 (n : Int))[i]? = some (.int (0 + (i : Nat))) := by simp [rgV, hi]
    rw [h3] at h1
    cases h1
    exact .int _
end
end Z
namespace Z
open PySem PySem.Spec PyProof.Rows L2

section
variable {K : PySem.W.Frag} {Γ : List Sl} {N Bk Ct : List Sl → Prop} {R : List Sl → Rv → Prop} {ta tb te ty tv tk : TE} {tr : TA} {t : TS} {Φ : PyData → Prop} {ΦO : Ob → Prop} {i : Nat} {p l : Addr} {ns : List Int} {c k : Int}
/-! ### the law's stream, opened -/
theorem St8.same2 {B : Bs} {σ : L2.St} {H0 H : Hp} {b b' : Ob} (st : St8 K B Γ σ H0 H) (hi : Γ[i]? = some (.own p b)) (h1 : fp p b' = fp p b) (hm : mine b → mine b') (h2 : ObAt K H0 H p b') : St8 K B (Γ.set i (.own p b')) σ H0 H := by
  refine ⟨fun j s hj => ?_, st.ex, fun j m p1 b1 q c' hjk e1 e2 => ?_, fun j p1 b1 hj => ?_, st.b0, st.old, st.keep, st.dom, st.md⟩
  · rcases getset hj with ⟨rfl, rfl, hl⟩ | ⟨hne, hj⟩
    · obtain ⟨w, e, ok⟩ := st.sl i _ hi
      exact ⟨w, e, ok.1, h2⟩
    · exact st.sl j s hj
  · rcases getset e1 with ⟨z1, z, _⟩ | ⟨n1, e1⟩
    · cases z
      rcases getset e2 with ⟨z2, _, _⟩ | ⟨n2, e2⟩
      · exact absurd (z1.symm.trans z2) hjk
      · rw [h1]; exact st.sep j m p b q c' hjk (z1 ▸ hi) e2
    rcases getset e2 with ⟨z2, z, _⟩ | ⟨n2, e2⟩
    · cases z
      rw [h1]; exact st.sep j m p1 b1 p b hjk e1 (z2 ▸ hi)
    exact st.sep j m p1 b1 q c' hjk e1 e2
  · rcases getset hj with ⟨z1, z, _⟩ | ⟨_, hj⟩
    · cases z
      rw [h1]
      exact fun x hx => have q := st.fr i p b hi x hx; ⟨q.1, q.2.imp (fun z => ⟨z.1, hm z.2⟩) id⟩
    exact st.fr j p1 b1 hj
theorem ws_open (i : Nat) (hi : Γ[i]? = some (.own p .strm)) (q : ∀ l ns c k, 0 ≤ k → Ws K t (Γ.set i (.own p (.strmX l ns c k))) N R Bk Ct) : Ws K t Γ N R Bk Ct := fun B σ H0 H D st kn kr kb kc => by
  obtain ⟨l, c, k, ns, h1, h2, h3⟩ := st.domO hi
  exact q l ns c k h3 B σ H0 H D (st.same2 (b' := .strmX l ns c k) hi rfl (fun _ => trivial) ⟨h1, h2, h3⟩) kn kr kb kc
theorem ws_close (i : Nat) (hi : Γ[i]? = some (.own p (.strmX l ns c k))) (q : Ws K t (Γ.set i (.own p .strm)) N R Bk Ct) : Ws K t Γ N R Bk Ct := fun B σ H0 H D st kn kr kb kc => by
  obtain ⟨h1, h2, h3⟩ := st.domO hi
  exact q B σ H0 H D (st.same2 (b' := .strm) hi rfl (fun _ => trivial) ⟨l, c, k, ns, h1, h2, h3⟩) kn kr kb kc
theorem wd_sx0 (hi : Γ[i]? = some (.own p (.strmX l ns c k))) (q : Φ (.list (ns.map .int))) : Wd K (tOp (rIx K) (tVar i) (tC (.int 0))) Γ Φ := fun B σ H0 H st Q kk => by
  obtain ⟨o, e1, rfl, h1, h2, h3⟩ := st.sl i _ hi
  exact ⟨_, e1, .inl ⟨p, _, 0, .ref l, rfl, rfl, SqL.of h1, rfl, kk _ _ _ _ st (Same.refl _) (.lst h2 (RpA.ints ns)) q⟩⟩
theorem wd_sx1 (hi : Γ[i]? = some (.own p (.strmX l ns c k))) (q : Φ (.int c)) : Wd K (tOp (rIx K) (tVar i) (tC (.int 1))) Γ Φ := fun B σ H0 H st Q kk => by
  obtain ⟨o, e1, rfl, h1, h2, h3⟩ := st.sl i _ hi
  exact ⟨_, e1, .inl ⟨p, _, 1, .int c, rfl, rfl, SqL.of h1, rfl, kk _ _ _ _ st (Same.refl _) (.int _) q⟩⟩
theorem wd_sx2 (hi : Γ[i]? = some (.own p (.strmX l ns c k))) (q : Φ (.int k)) : Wd K (tOp (rIx K) (tVar i) (tC (.int 2))) Γ Φ := fun B σ H0 H st Q kk => by
  obtain ⟨o, e1, rfl, h1, h2, h3⟩ := st.sl i _ hi
  exact ⟨_, e1, .inl ⟨p, _, 2, .int k, rfl, rfl, SqL.of h1, rfl, kk _ _ _ _ st (Same.refl _) (.int _) q⟩⟩
theorem ws_sx1 (hi : Γ[i]? = some (.own p (.strmX l ns c k))) (h : Wd K te Γ fun d => ∃ c', d = .int c' ∧ N (Γ.set i (.own p (.strmX l ns c' k)))) : Ws K (tAsg te (gSub (tVar i) (tC (.int 1)) rSetL)) Γ N R Bk Ct := fun B σ H0 H D st kn _ _ _ =>
  h B σ H0 H st _ fun v d H1 H1' s e r q => by
    obtain ⟨c', rfl, q⟩ := q
    cases r
    obtain ⟨o, e1, rfl, h1, h2, h3⟩ := s.sl i _ hi
    exact ⟨_, e1, p, _, 1, 1, rfl, rfl, h1, rfl, kn _ _ _ _ (s.chg (b' := .strmX l ns c' k) hi rfl rfl (fun z => z) ⟨upd_same, h2, h3⟩) e q⟩
theorem ws_sx2 (hi : Γ[i]? = some (.own p (.strmX l ns c k))) (h : Wd K te Γ fun d => ∃ k', d = .int k' ∧ 0 ≤ k' ∧ N (Γ.set i (.own p (.strmX l ns c k')))) : Ws K (tAsg te (gSub (tVar i) (tC (.int 2)) rSetL)) Γ N R Bk Ct := fun B σ H0 H D st kn _ _ _ =>
  h B σ H0 H st _ fun v d H1 H1' s e r q => by
    obtain ⟨k', rfl, hk, q⟩ := q
    cases r
    obtain ⟨o, e1, rfl, h1, h2, h3⟩ := s.sl i _ hi
    exact ⟨_, e1, p, _, 2, 2, rfl, rfl, h1, rfl, kn _ _ _ _ (s.chg (b' := .strmX l ns c k') hi rfl rfl (fun z => z) ⟨upd_same, h2, hk⟩) e q⟩
/-- [list(script), 0, 0] -/
theorem wf_strm (h : Wf K te Γ fun b => (∃ ns : List Int, b = .lst (ns.map .int)) ∧ ΦO .strm) : Wf K (tLst (tCons te (tCons (tC (.int 0)) (tCons (tC (.int 0)) tNil)))) Γ ΦO := fun B σ H0 H st Q kk =>
  h B σ H0 H st _ fun p b H1 H1' s e f q => by
    obtain ⟨⟨ns, rfl⟩, q⟩ := q
    obtain ⟨H2, e2, s2, r2⟩ := f.toData s
    cases r2 with
    | lst g1 g2 =>
      rw [g2.ints_inv] at g1
      exact ⟨(by decide : (3 : Nat) ≤ sizeLine), fun x hx => kk x .strm _ _ (s2.new hx) (e.trans e2) (s2.frs hx rfl ⟨p, 0, 0, ns, upd_same, g1, Int.le_refl _⟩) q⟩

/-! ### a, b, c = x, y, z with the tuple made -/
theorem SmsOk.mono {B : Bs} {H0 H H' : Hp} (e : Same H H') : ∀ {vs : List V} {rs : List Sl}, SmsOk K B Γ H0 H vs rs → SmsOk K B Γ H0 H' vs rs
  | [], [], _ => trivial
  | [], _ :: _, h => h.elim
  | _ :: _, [], h => h.elim
  | v :: vs, r :: rs, ⟨h1, h2, h3⟩ => by
    refine ⟨?_, SmsOk.mono e h2, h3⟩
    cases r with
    | un => exact h1.elim
    | dat d => exact h1
    | own p b => exact ⟨h1.1, h1.2.1.mono (Same.refl _) e, h1.2.2⟩
theorem ws_asgM3 {a b d : Nat} (h : WaM K tr Γ fun rs => ∃ x y z, rs = [x, y, z] ∧ N (((Γ.set a x).set b y).set d z)) : Ws K (tAsg (tTup tr) (gTup K 3 (gCons (gName a) (gCons (gName b) (gCons (gName d) gNil))))) Γ N R Bk Ct := fun B σ H0 H D st kn _ _ _ =>
  h B σ H0 H st _ fun vs rs H1 H1' s e r q => by
    obtain ⟨x, y, z, rfl, q⟩ := q
    rcases vs with _ | ⟨v, _ | ⟨w, _ | ⟨u, _ | ⟨_, _⟩⟩⟩⟩
    · exact r.elim
    · exact r.2.1.elim
    · exact r.2.1.2.1.elim
    · refine ⟨(by decide : (3 : Nat) ≤ sizeLine), fun p hp => ?_⟩
      have s2 := s.new (o := .tup [v, w, u]) hp
      have r1 := r.mono (same_upd (o := .tup [v, w, u]) hp)
      have r2 := smsOk_set a r1
      exact ⟨p, _, rfl, SqT.of upd_same, rfl, _, _, rfl, _, _, rfl, _, _, rfl, rfl, kn _ _ _ _ (((s2.setM a r1.1).setM b r2.1).setM d (smsOk_set b r2).1) e q⟩
    · exact r.2.1.2.1.2.1.elim
theorem ws_asgM2 {a b : Nat} (h : WaM K tr Γ fun rs => ∃ x y, rs = [x, y] ∧ N ((Γ.set a x).set b y)) : Ws K (tAsg (tTup tr) (gTup K 2 (gCons (gName a) (gCons (gName b) gNil)))) Γ N R Bk Ct := fun B σ H0 H D st kn _ _ _ =>
  h B σ H0 H st _ fun vs rs H1 H1' s e r q => by
    obtain ⟨x, y, rfl, q⟩ := q
    rcases vs with _ | ⟨v, _ | ⟨w, _ | ⟨_, _⟩⟩⟩
    · exact r.elim
    · exact r.2.1.elim
    · refine ⟨(by decide : (2 : Nat) ≤ sizeLine), fun p hp => ?_⟩
      have s2 := s.new (o := .tup [v, w]) hp
      have r1 := r.mono (same_upd (o := .tup [v, w]) hp)
      exact ⟨p, _, rfl, SqT.of upd_same, rfl, _, _, rfl, _, _, rfl, rfl, kn _ _ _ _ ((s2.setM a r1.1).setM b (smsOk_set a r1).1) e q⟩
    · exact r.2.1.2.1.elim
end
end Z
namespace Z
open PySem PySem.Spec PyProof.Rows L2
section
variable {K : PySem.W.Frag} {Γ : List Sl} {te : TE} {tt : TT} {g : TG} {wi : TI} {ΦO : Ob → Prop} {vs : List Nat}
theorem take_succ_get {α : Type} {l : List α} {k : Nat} {a : α} (h : l[k]? = some a) : l.take (k + 1) = l.take k ++ [a] := by
  rw [List.take_add_one, h]; rfl
/-- [e for a in l] and [e for a in l if p] -/
theorem wf_fmL (α : Type) (hv : ∀ i, i ∈ vs → ∀ p b, Γ[i]? ≠ some (.own p b))
    (h : Wi K wi Γ fun ds => ∃ (l : List α) (enc : α → PyData) (p : α → Bool) (F : α → PyData), ds = l.map enc ∧ l.length ≤ sizeLine ∧
      (∀ a ∈ l, Wg K (fun j => j ∈ vs) g (enc a) (wipeG Γ vs) fun Γ2 => Wt K tt Γ2 fun b => b = p a ∧ (p a = true → Wd K te Γ2 fun e => e = F a)) ∧ ΦO (.lst ((l.filter p).map F))) : Wf K (tLc wi g tt te vs) Γ ΦO :=
  wf_lc hv fun B σ H0 H st Q k => h B σ H0 H st Q fun J ds Hs H1 s e w ⟨l, enc, p, F, hd, hz, hs, q⟩ => by
    subst hd
    refine k J _ Hs H1 s e w ⟨by rw [List.length_map]; exact hz, fun k acc => acc = ((l.take k).filter p).map F, rfl, fun k d acc hk ha => ?_, fun acc ha => ?_⟩
    · rw [List.getElem?_map, Option.map_eq_some_iff] at hk
      obtain ⟨a, hk, rfl⟩ := hk
      have tk := take_succ_get hk
      refine fun B2 v σ2 H02 H2 st2 rv Q2 k2 => hs a (List.mem_of_getElem? hk) B2 v σ2 H02 H2 st2 rv Q2 fun Γ' σ' H0' H' s' e' l' j' wt => k2 Γ' σ' H0' H' s' e' l' j' fun B3 σ3 H03 H3 st3 Q3 k3 => wt B3 σ3 H03 H3 st3 Q3 fun b H04 H4 s4 e4 ⟨hb, we⟩ => k3 b H04 H4 s4 e4 ⟨fun hb1 => ?_, fun hb0 => ?_⟩
      · have pa : p a = true := hb.symm.trans hb1
        refine (we pa).imp fun e he => ?_
        show acc ++ [e] = ((l.take (k + 1)).filter p).map F
        rw [ha, tk, List.filter_append, List.map_append, he]
        simp [pa]
      · have pa : p a = false := hb.symm.trans hb0
        show acc = ((l.take (k + 1)).filter p).map F
        rw [ha, tk, List.filter_append]
        simp [pa]
    · have ha : acc = ((l.take (l.map enc).length).filter p).map F := ha
      rw [ha, List.length_map, List.take_length]
      exact q
theorem wf_mapL (α : Type) (hv : ∀ i, i ∈ vs → ∀ p b, Γ[i]? ≠ some (.own p b))
    (h : Wi K wi Γ fun ds => ∃ (l : List α) (enc : α → PyData) (F : α → PyData), ds = l.map enc ∧ l.length ≤ sizeLine ∧
      (∀ a ∈ l, Wg K (fun j => j ∈ vs) g (enc a) (wipeG Γ vs) fun Γ2 => Wd K te Γ2 fun e => e = F a) ∧ ΦO (.lst (l.map F))) : Wf K (tLc wi g tYes te vs) Γ ΦO :=
  wf_fmL α hv fun B σ H0 H st Q k => h B σ H0 H st Q fun J ds Hs H1 s e w ⟨l, enc, F, hd, hz, hs, q⟩ =>
    k J _ Hs H1 s e w ⟨l, enc, fun _ => true, F, hd, hz, fun a ha B2 v σ2 H02 H2 st2 rv Q2 k2 => hs a ha B2 v σ2 H02 H2 st2 rv Q2 fun Γ' σ' H0' H' s' e' l' j' we => k2 Γ' σ' H0' H' s' e' l' j' (wt_yes ⟨rfl, fun _ => we⟩), by
      rw [show l.filter (fun _ => true) = l by simp]; exact q⟩
theorem enumD_map {α : Type} {enc : α → PyData} {l : List α} : enumD (l.map enc) = l.zipIdx.map fun x => .tuple [.int (x.2 : Nat), enc x.1] := by
  apply List.ext_getElem?
  intro i
  rw [enumD, List.getElem?_mapIdx, List.getElem?_map, List.getElem?_map, List.getElem?_zipIdx]
  cases l[i]? <;> simp
theorem rangeD_map {n : Nat} : rangeD 0 n = (List.range n).map fun k => .int (k : Nat) := by
  unfold rangeD
  exact List.map_congr_left fun k _ => by rw [Int.zero_add]
theorem mem_zipIdx' {α : Type} {l : List α} {x : α × Nat} (h : x ∈ l.zipIdx) : l[x.2]? = some x.1 := by
  obtain ⟨a, i⟩ := x
  exact List.mem_zipIdx_iff_getElem?.mp h
end
end Z
namespace Z
open PySem PySem.Spec PyProof.Rows L2
section
variable {K : PySem.W.Frag} {Γ : List Sl} {N Bk Ct : List Sl → Prop} {R : List Sl → Rv → Prop} {c : TT} {t u : TS} {te : TE} {Φ : PyData → Prop} {ΦB : Bool → Prop}
theorem sl24 {n : Nat} (h : n ≤ 16777216) : n ≤ sizeLine := by rw [sizeLine_eq]; exact h
theorem Wt.to {b0 : Bool} (h : Wt K c Γ fun b => b = b0) (q : ΦB b0) : Wt K c Γ ΦB := fun B σ H0 H st Q k => h B σ H0 H st Q fun b H1 H' s e hb => k b H1 H' s e (by rw [hb]; exact q)
theorem Wd.to {d0 : PyData} (h : Wd K te Γ fun d => d = d0) (q : Φ d0) : Wd K te Γ Φ := h.imp fun d hd => by rw [hd]; exact q
theorem ws_ifF (h : Wt K c Γ fun b => b = false) (q : Ws K u Γ N R Bk Ct) : Ws K (tIfS c t u) Γ N R Bk Ct := ws_if (h.to ⟨fun z => (by cases z), fun _ => q⟩)
theorem ws_ifT (h : Wt K c Γ fun b => b = true) (q : Ws K t Γ N R Bk Ct) : Ws K (tIfS c t u) Γ N R Bk Ct := ws_if (h.to ⟨fun _ => q, fun z => (by cases z)⟩)
theorem ws_ifB (b0 : Bool) (h : Wt K c Γ fun b => b = b0) (q : b0 = true → Ws K t Γ N R Bk Ct) (q' : b0 = false → Ws K u Γ N R Bk Ct) : Ws K (tIfS c t u) Γ N R Bk Ct := ws_if (h.to ⟨q, q'⟩)
theorem wd_eqS {ta tb : TE} (h : Wd K ta Γ fun x => Wd K tb Γ fun y => ∃ a b, x = .str a ∧ y = .str b ∧ Φ (.bool (decide (a = b)))) : Wd K (tOp rEq ta tb) Γ Φ := fun B σ H0 H st Q k =>
  h B σ H0 H st _ fun v d H1 H' s e r q => q B σ H1 H' s _ fun v2 d2 H2 H'' s2 e2 r2 q2 => by
    obtain ⟨a, b, rfl, rfl, q2⟩ := q2
    cases r; cases r2
    refine ⟨rfl, ?_⟩
    have e3 : decide (V.str a = V.str b) = decide (a = b) := by simp
    rw [e3]
    exact k _ _ _ _ s2 (e.trans e2) (.bl _) q2
end
end Z
namespace Z
open PySem PySem.Spec PyProof.Rows L2
abbrev Wz (K : PySem.W.Frag) (t : TS) (sm : Bool) (s : Addr) (ds : List PyData) (m : Nat) (Φ : Rv → Prop) : Prop :=
  Ws K t (Γ0 sm s ds m) (fun Γ' => Kp sm s Γ' ∧ Φ (.dat .none)) (fun Γ' r => Kp sm s Γ' ∧ Φ r) (fun _ => False) (fun _ => False)
theorem kpF {s : Addr} {Γ : List Sl} : Kp false s Γ := fun h => nomatch h
theorem atI_nat {α : Type} {ds : List α} {k : Nat} {d : α} (h : ds[k]? = some d) : L2.atI ds (k : Int) = some d := by
  have hk : k < ds.length := (List.getElem?_eq_some_iff.mp h).1
  unfold L2.atI
  have : L2.ixN ds.length (k : Int) = some k := by
    unfold L2.ixN
    first | simp [hk] | (simp; omega)
  rw [this]
  simpa using h

local macro_rules
  | `(tactic| walk_at "v") => `(tactic| (intro i hi p b; simp at hi; first | (subst hi; simp; done) | (rcases hi with hi | hi <;> subst hi <;> simp; done) | (rcases hi with hi | hi | hi <;> subst hi <;> simp; done) | (rcases hi with hi | hi | hi | hi <;> subst hi <;> simp; done)))
  | `(tactic| walk_at "z") => `(tactic| (repeat (first
  | with_reducible refine wd_sx0 rfl ?_
  | with_reducible refine wd_sx1 rfl ?_
  | with_reducible refine wd_sx2 rfl ?_
  | with_reducible refine wd_var rfl ?_
  | with_reducible refine wd_int ?_
  | with_reducible refine wd_non ?_
  | with_reducible refine wd_bl ?_
  | with_reducible refine wd_str ?_
  | with_reducible refine wd_I0 ?_
  | with_reducible refine wd_B0 ?_
  | with_reducible refine wd_I ?_
  | with_reducible refine wd_U ?_
  | with_reducible refine wd_chain ?_
  | with_reducible refine wd_isN ?_
  | with_reducible refine wd_notN ?_
  | with_reducible refine wd_isB ?_
  | with_reducible refine wd_isntB ?_
  | with_reducible refine wd_eqD ?_
  | with_reducible refine wd_neD ?_
  | with_reducible refine wd_eqS ?_
  | with_reducible refine wd_and ?_
  | with_reducible refine wd_or ?_
  | with_reducible refine wd_not ?_
  | with_reducible refine wd_if ?_
  | with_reducible refine wt_test ?_
  | with_reducible refine wt_B ?_
  | with_reducible refine wt_and ?_
  | with_reducible refine wt_or ?_
  | with_reducible refine wt_not ?_
  | with_reducible refine wt_yes ?_
  | with_reducible refine wa_nil ?_
  | with_reducible refine wa_cons ?_
  | with_reducible refine wo_none ?_
  | with_reducible refine wo_some ?_
  | with_reducible refine wd_tup ?_
  | with_reducible refine wd_len ?_
  | with_reducible refine wd_ix ?_
  | with_reducible refine wd_slT ?_
  | with_reducible refine wd_catT ?_
  | with_reducible refine wd_tuple ?_
  | with_reducible refine wd_abs ?_
  | with_reducible refine wd_toInt ?_
  | with_reducible refine wd_max2 ?_
  | with_reducible refine wd_min2 ?_
  | with_reducible refine wd_isInt ?_
  | with_reducible refine wd_isBool ?_
  | with_reducible refine wd_isStr ?_
  | with_reducible refine wd_isTup ?_
  | with_reducible refine wd_dgetK rfl ?_
  | with_reducible refine wd_dgetT rfl ?_
  | with_reducible refine wd_dinK rfl ?_
  | with_reducible refine wd_dnotinK rfl ?_
  | with_reducible refine wd_dinT rfl ?_
  | with_reducible refine wd_dnotinT rfl ?_
  | with_reducible refine wd_sum ?_
  | with_reducible refine wd_all ?_
  | with_reducible refine wd_any ?_
  | with_reducible refine wd_maxL ?_
  | with_reducible refine wd_maxT ?_
  | with_reducible refine wam_nil ?_
  | with_reducible refine wam_cons ?_
  | with_reducible refine wm_f (wf_lst ?_)
  | with_reducible refine wm_f (wf_list ?_)
  | with_reducible refine wm_f (wf_rep1 ?_)
  | with_reducible refine wm_f (wf_dnewT ?_)
  | with_reducible refine wm_f (wf_dnewK ?_)
  | with_reducible refine wm_d ?_
  | with_reducible refine wg_name trivial ?_
  | refine wg_name (by simp) ?_
  | with_reducible refine wi_tup ?_
  | with_reducible refine wi_list ?_
  | with_reducible refine wi_enum ?_
  | with_reducible refine wi_zip ?_
  | with_reducible refine wi_rng1 ?_
  | with_reducible refine wi_rng2 ?_
  | with_reducible refine wg_tup ?_
  | refine wgs_nil rfl ?_
  | refine wgs_cons ⟨_, _, rfl, ?_⟩
  | with_reducible refine wd_call ?_
  | with_reducible refine wd_callS rfl ?_
  | with_reducible refine wr_own rfl ?_
  | with_reducible refine wr_f (wf_lst ?_)
  | with_reducible refine wr_f (wf_list ?_)
  | with_reducible refine wr_f (wf_cat ?_)
  | with_reducible refine wr_f (wf_rep1 ?_)
  | with_reducible refine wr_f (wf_slL ?_)
  | with_reducible refine wr_d ?_
  | with_reducible refine wd_f (wf_lst ?_)
  | with_reducible refine wd_f (wf_list ?_)
  | with_reducible refine wd_f (wf_cat ?_)
  | with_reducible refine wd_f (wf_rep1 ?_)
  | with_reducible refine wd_f (wf_slL ?_)
  | with_reducible refine wf_lst ?_
  | with_reducible refine wf_list ?_
  | with_reducible refine wf_cat ?_
  | with_reducible refine wf_rep1 ?_
  | with_reducible refine wf_slL ?_
  | refine ⟨_, _, rfl, rfl, ?_⟩
  | refine ⟨_, rfl, rfl, ?_⟩
  | refine ⟨_, rfl, ?_⟩
  | refine ⟨_, _, _, .inl rfl, rfl, rfl, ?_⟩
  | refine ⟨_, _, _, .inr rfl, rfl, rfl, ?_⟩
  | refine ⟨_, _, _, rfl, ?_⟩
  | refine ⟨sl24 (Nat.le_of_ble_eq_true rfl), ?_⟩
  | refine ⟨fun h => absurd h (by first | (simp; done) | (simp; omega)), fun (_ : (_ : Bool) = _) => ?_⟩
  | refine ⟨fun (_ : (_ : Bool) = _) => ?_, fun h => absurd h (by first | (simp; done) | (simp; omega))⟩
  | refine .inl ⟨_, rfl, ?_⟩)))
/-! ### demands and columns as data -/
abbrev Dm := Nat × Nat × Int
abbrev dmD (d : Dm) : PyData := .tuple [.int (d.1 : Nat), .int (d.2.1 : Nat), .int d.2.2]
abbrev dmsD (l : List Dm) : List PyData := l.map dmD
abbrev intsD (l : List Int) : List PyData := l.map .int
def GoodD (n : Nat) (d : Dm) : Prop := d.1 < n ∧ d.2.1 < n ∧ 0 ≤ d.2.2 ∧ d.2.2 ≤ 1000
structure Good (n : Nat) (dms : List Dm) : Prop where
  lo : 1 ≤ n
  hi : n ≤ 1000
  len : dms.length ≤ 4000
  all : ∀ d ∈ dms, GoodD n d
structure Cols (n : Nat) (cs : List Int) : Prop where
  len : cs.length = n
  pos : ∀ c ∈ cs, 1 ≤ c
/-! ### plain values -/
def intB : PyData → Bool | .int _ => true | _ => false
abbrev P_is_integer (ds : List PyData) (Φ : Rv → Prop) : Prop := ∃ d, ds = [d] ∧ Φ (.dat (.bool (intB d)))
theorem len_is_integer (ds : List PyData) (Φ : Rv → Prop) (h : P_is_integer ds Φ) : ds.length = 1 := by obtain ⟨d, rfl, _⟩ := h; rfl
def t_is_integer (K : PySem.W.Frag) : TS :=
  (tRet (tAndV (tCB (rIsi K) (tCons (tVar 0) (tCons (tC (.ty "int")) tNil))) (tNotV (tCB (rIsi K) (tCons (tVar 0) (tCons (tC (.ty "bool")) tNil))))))
theorem W_is_integer (K : PySem.W.Frag) (ds : List PyData) (Φ : Rv → Prop) (s : Addr) (p : P_is_integer ds Φ) : Wz K (t_is_integer K) false s ds 0 Φ := by
  obtain ⟨d, rfl, q⟩ := p
  show Ws K _ [.dat d] _ _ _ _
  unfold t_is_integer
  refine ws_ret ?_
  walk_at "z"
  refine ⟨fun h => ?_, fun h => ?_⟩
  · walk_at "z"
    refine ⟨kpF, ?_⟩
    cases d <;> first | exact q | (cases h)
  · refine ⟨kpF, ?_⟩
    cases d <;> first | exact q | (cases h)
abbrev P_is_from_to (ds : List PyData) (Φ : Rv → Prop) : Prop := ∃ a l m : Int, ds = [.int a, .int l, .int m] ∧ Φ (.dat (.bool (decide (l ≤ a ∧ a ≤ m))))
theorem len_is_from_to (ds : List PyData) (Φ : Rv → Prop) (h : P_is_from_to ds Φ) : ds.length = 3 := by obtain ⟨_, _, _, rfl, _⟩ := h; rfl
def t_is_from_to (K : PySem.W.Frag) : TS :=
  (tRet (tAndV (tCall (spZ K false P_is_integer) [] E0 (tCons (tVar 0) tNil)) (tChain rLeI rLeI (tVar 1) (tVar 0) (tVar 2))))
theorem W_is_from_to (K : PySem.W.Frag) (ds : List PyData) (Φ : Rv → Prop) (s : Addr) (p : P_is_from_to ds Φ) : Wz K (t_is_from_to K) false s ds 0 Φ := by
  obtain ⟨a, l, m, rfl, q⟩ := p
  show Ws K _ [.dat (.int a), .dat (.int l), .dat (.int m)] _ _ _ _
  unfold t_is_from_to
  refine ws_ret ?_
  walk_at "z"
  refine ⟨fun _ => ?_, fun h => (by cases h)⟩
  walk_at "z"
  refine ⟨fun h => ?_, fun h => ?_⟩
  · walk_at "z"
    have h := of_decide_eq_true h
    exact ⟨kpF, by simpa [h] using q⟩
  · have h := of_decide_eq_false h
    exact ⟨kpF, by simpa [h] using q⟩
abbrev P_is_tuple_of (ds : List PyData) (Φ : Rv → Prop) : Prop := ∃ (xs : List PyData) (l m : Int), ds = [.tuple xs, .int l, .int m] ∧ Φ (.dat (.bool (decide (l ≤ xs.length ∧ xs.length ≤ m))))
theorem len_is_tuple_of (ds : List PyData) (Φ : Rv → Prop) (h : P_is_tuple_of ds Φ) : ds.length = 3 := by obtain ⟨_, _, _, rfl, _⟩ := h; rfl
def t_is_tuple_of (K : PySem.W.Frag) : TS :=
  (tRet (tAndV (tCB (rIsi K) (tCons (tVar 0) (tCons (tC (.ty "tuple")) tNil))) (tChain rLeI rLeI (tVar 1) (tCB (rLenQ K) (tCons (tVar 0) tNil)) (tVar 2))))
theorem W_is_tuple_of (K : PySem.W.Frag) (ds : List PyData) (Φ : Rv → Prop) (s : Addr) (p : P_is_tuple_of ds Φ) : Wz K (t_is_tuple_of K) false s ds 0 Φ := by
  obtain ⟨xs, l, m, rfl, q⟩ := p
  show Ws K _ [.dat (.tuple xs), .dat (.int l), .dat (.int m)] _ _ _ _
  unfold t_is_tuple_of
  refine ws_ret ?_
  walk_at "z"
  refine ⟨fun _ => ?_, fun h => (by cases h)⟩
  walk_at "z"
  refine ⟨fun h => ?_, fun h => ?_⟩
  · walk_at "z"
    have h := of_decide_eq_true h
    exact ⟨kpF, by simpa [h] using q⟩
  · have h := of_decide_eq_false h
    exact ⟨kpF, by simpa [h] using q⟩
abbrev P_is_demand (ds : List PyData) (Φ : Rv → Prop) : Prop := ∃ (n : Nat) (d : Dm), ds = [.int n, dmD d] ∧ GoodD n d ∧ Φ (.dat (.bool true))
theorem len_is_demand (ds : List PyData) (Φ : Rv → Prop) (h : P_is_demand ds Φ) : ds.length = 2 := by obtain ⟨_, _, rfl, _⟩ := h; rfl
def t_is_demand (K : PySem.W.Frag) : TS :=
  (tSeq (tIfS (tOr (tNot (tB (tCall (spZ K false P_is_tuple_of) [] E0 (tCons (tVar 1) (tCons (tC (.int 3)) (tCons (tC (.int 3)) tNil)))))) (tNot (tB (tCall (spZ K false P_is_from_to) [] E0 (tCons (tOp (rIx K) (tVar 1) (tC (.int 2))) (tCons (tC (.int 0)) (tCons (tC (.int 1000)) tNil))))))) (tRet (tC (.bl false))) tNext)
  (tRet (tAndV (tCall (spZ K false P_is_from_to) [] E0 (tCons (tOp (rIx K) (tVar 1) (tC (.int 0))) (tCons (tC (.int 0)) (tCons (tOp rSubI (tVar 0) (tC (.int 1))) tNil)))) (tCall (spZ K false P_is_from_to) [] E0 (tCons (tOp (rIx K) (tVar 1) (tC (.int 1))) (tCons (tC (.int 0)) (tCons (tOp rSubI (tVar 0) (tC (.int 1))) tNil)))))))
theorem W_is_demand (K : PySem.W.Frag) (ds : List PyData) (Φ : Rv → Prop) (s : Addr) (p : P_is_demand ds Φ) : Wz K (t_is_demand K) false s ds 0 Φ := by
  obtain ⟨n, ⟨x, y, w⟩, rfl, ⟨h1, h2, h3, h4⟩, q⟩ := p
  show Ws K _ [.dat (.int n), .dat (.tuple [.int x, .int y, .int w])] _ _ _ _
  simp only at h1 h2 h3 h4
  unfold t_is_demand
  refine ws_seq (ws_ifF ?_ (ws_next ?_))
  · walk_at "z"
    simp [h3, h4]
  · refine ws_ret ?_
    walk_at "z"
    exact ⟨kpF, by
      have e : (decide ((0 : Int) ≤ (y : Int) ∧ (y : Int) ≤ (n : Int) - 1)) = true := by simp; omega
      rw [e]; exact q⟩
abbrev P_check_demands (ds : List PyData) (Φ : Rv → Prop) : Prop := ∃ (n : Nat) (dms : List Dm), ds = [.int n, .tuple (dmsD dms)] ∧ Good n dms ∧ Φ (.dat .none)
theorem len_check_demands (ds : List PyData) (Φ : Rv → Prop) (h : P_check_demands ds Φ) : ds.length = 2 := by obtain ⟨_, _, rfl, _⟩ := h; rfl
def t_check_demands (K : PySem.W.Frag) : TS :=
  (tSeq (tIfS (tNot (tB (tCall (spZ K false P_is_from_to) [] E0 (tCons (tVar 0) (tCons (tC (.int 1)) (tCons (tC (.int 1000)) tNil)))))) tNever tNext)
  (tIfS (tOr (tNot (tB (tCall (spZ K false P_is_tuple_of) [] E0 (tCons (tVar 1) (tCons (tC (.int 0)) (tCons (tC (.int 4000)) tNil)))))) (tNot (tB (tCB (rAll K) (tCons (tLc (iTup K (tVar 1)) (gName 2) tYes (tCall (spZ K false P_is_demand) [] E0 (tCons (tVar 0) (tCons (tVar 2) tNil))) [2]) tNil))))) tNever tNext))
theorem W_check_demands (K : PySem.W.Frag) (ds : List PyData) (Φ : Rv → Prop) (s : Addr) (p : P_check_demands ds Φ) : Wz K (t_check_demands K) false s ds 1 Φ := by
  obtain ⟨n, dms, rfl, G, q⟩ := p
  show Ws K _ [.dat (.int n), .dat (.tuple (dmsD dms)), .un] _ _ _ _
  have g1 := G.lo
  have g2 := G.hi
  have g3 := G.len
  unfold t_check_demands
  refine ws_seq (ws_ifF ?_ (ws_next (ws_ifF ?_ (ws_next ⟨kpF, q⟩))))
  · walk_at "z"
    simp; omega
  · walk_at "z"
    · refine wd_f (wf_mapL Dm (by walk_at "v") ?_)
      walk_at "z"
      refine ⟨dms, dmD, fun _ => .bool true, rfl, sl24 (by omega), fun a ha => ?_, ?_⟩
      · walk_at "z"
        exact ⟨n, a, rfl, G.all a ha, _, rfl, rfl⟩
      · exact ⟨_, rfl, dms.map fun _ => true, by simp, _, rfl, by simp⟩
theorem ixN_nat {m k : Nat} (h : k < m) : L2.ixN m (k : Int) = some k := by
  unfold L2.ixN
  first | simp [h] | (simp; omega)
theorem at_ints {cs : List Int} {k : Nat} (h : k < cs.length) : (intsD cs)[k]? = some (.int (cs.getD k 0)) := by
  simp [List.getD, h]
abbrev P_are_columns (ds : List PyData) (Φ : Rv → Prop) : Prop := ∃ (n : Nat) (cs : List Int), ds = [.int n, .tuple (intsD cs)] ∧ Cols n cs ∧ n ≤ 1000 ∧ Φ (.dat (.bool true))
theorem len_are_columns (ds : List PyData) (Φ : Rv → Prop) (h : P_are_columns ds Φ) : ds.length = 2 := by obtain ⟨_, _, rfl, _⟩ := h; rfl
def t_are_columns (K : PySem.W.Frag) : TS :=
  (tRet (tAndV (tCall (spZ K false P_is_tuple_of) [] E0 (tCons (tVar 1) (tCons (tVar 0) (tCons (tVar 0) tNil)))) (tCB (rAll K) (tCons (tLc (iTup K (tVar 1)) (gName 2) tYes (tAndV (tCall (spZ K false P_is_integer) [] E0 (tCons (tVar 2) tNil)) (tOp rGeI (tVar 2) (tC (.int 1)))) [2]) tNil))))
theorem W_are_columns (K : PySem.W.Frag) (ds : List PyData) (Φ : Rv → Prop) (s : Addr) (p : P_are_columns ds Φ) : Wz K (t_are_columns K) false s ds 1 Φ := by
  obtain ⟨n, cs, rfl, C, hn, q⟩ := p
  show Ws K _ [.dat (.int n), .dat (.tuple (intsD cs)), .un] _ _ _ _
  have c1 := C.len
  unfold t_are_columns
  refine ws_ret ?_
  walk_at "z"
  refine wd_f (wf_mapL Int (by walk_at "v") ?_)
  walk_at "z"
  refine ⟨cs, .int, fun _ => .bool true, rfl, sl24 (by omega), fun a ha => ?_, ?_⟩
  · walk_at "z"
    have := C.pos a ha
    refine ⟨fun _ => ?_, fun h => (by cases h)⟩
    walk_at "z"
    simp [this]
  · refine ⟨_, rfl, cs.map fun _ => true, by simp, kpF, ?_⟩
    have e : (cs.map fun _ => true).all id = true := by simp
    rw [e]; exact q
abbrev metB (cs : List Int) (d : Dm) : Bool := decide (cs.getD d.2.1 0 + d.2.2 ≤ cs.getD d.1 0)
abbrev P_is_met (ds : List PyData) (Φ : Rv → Prop) : Prop := ∃ (cs : List Int) (d : Dm), ds = [.tuple (intsD cs), dmD d] ∧ d.1 < cs.length ∧ d.2.1 < cs.length ∧ Φ (.dat (.bool (metB cs d)))
theorem len_is_met (ds : List PyData) (Φ : Rv → Prop) (h : P_is_met ds Φ) : ds.length = 2 := by obtain ⟨_, _, rfl, _⟩ := h; rfl
def t_is_met (K : PySem.W.Frag) : TS :=
  (tRet (tOp rGeI (tOp (rIx K) (tVar 0) (tOp (rIx K) (tVar 1) (tC (.int 0)))) (tOp rAddI (tOp (rIx K) (tVar 0) (tOp (rIx K) (tVar 1) (tC (.int 1)))) (tOp (rIx K) (tVar 1) (tC (.int 2))))))
theorem W_is_met (K : PySem.W.Frag) (ds : List PyData) (Φ : Rv → Prop) (s : Addr) (p : P_is_met ds Φ) : Wz K (t_is_met K) false s ds 0 Φ := by
  obtain ⟨cs, d, rfl, h1, h2, q⟩ := p
  show Ws K _ [.dat (.tuple (intsD cs)), .dat (dmD d)] _ _ _ _
  unfold t_is_met
  refine ws_ret ?_
  walk_at "z"
  refine ⟨_, _, _, .inr rfl, rfl, atI_nat (at_ints h1), ?_⟩
  walk_at "z"
  refine ⟨_, _, _, .inr rfl, rfl, atI_nat (at_ints h2), ?_⟩
  walk_at "z"
  exact ⟨kpF, q⟩
abbrev P_check_columns (ds : List PyData) (Φ : Rv → Prop) : Prop := ∃ (n : Nat) (cs : List Int), ds = [.int n, .tuple (intsD cs)] ∧ Cols n cs ∧ n ≤ 1000 ∧ Φ (.dat .none)
theorem len_check_columns (ds : List PyData) (Φ : Rv → Prop) (h : P_check_columns ds Φ) : ds.length = 2 := by obtain ⟨_, _, rfl, _⟩ := h; rfl
def t_check_columns (K : PySem.W.Frag) : TS :=
  (tIfS (tNot (tB (tCall (spZ K false P_are_columns) [] E0 (tCons (tVar 0) (tCons (tVar 1) tNil))))) tNever tNext)
theorem W_check_columns (K : PySem.W.Frag) (ds : List PyData) (Φ : Rv → Prop) (s : Addr) (p : P_check_columns ds Φ) : Wz K (t_check_columns K) false s ds 0 Φ := by
  obtain ⟨n, cs, rfl, C, hn, q⟩ := p
  show Ws K _ [.dat (.int n), .dat (.tuple (intsD cs))] _ _ _ _
  unfold t_check_columns
  refine ws_ifF ?_ (ws_next ⟨kpF, q⟩)
  walk_at "z"
  exact ⟨n, cs, rfl, C, hn, _, rfl, _, rfl, rfl⟩
abbrev P_meets (ds : List PyData) (Φ : Rv → Prop) : Prop := ∃ (n : Nat) (dms : List Dm) (cs : List Int), ds = [.int n, .tuple (dmsD dms), .tuple (intsD cs)] ∧ Good n dms ∧ Cols n cs ∧ Φ (.dat (.bool (dms.all (metB cs))))
theorem len_meets (ds : List PyData) (Φ : Rv → Prop) (h : P_meets ds Φ) : ds.length = 3 := by obtain ⟨_, _, _, rfl, _⟩ := h; rfl
def t_meets (K : PySem.W.Frag) : TS :=
  (tSeq (tDrop (tCall (spZ K false P_check_demands) [] E0 (tCons (tVar 0) (tCons (tVar 1) tNil))))
  (tSeq (tDrop (tCall (spZ K false P_check_columns) [] E0 (tCons (tVar 0) (tCons (tVar 2) tNil))))
  (tRet (tCB (rAll K) (tCons (tLc (iTup K (tVar 1)) (gName 3) tYes (tCall (spZ K false P_is_met) [] E0 (tCons (tVar 2) (tCons (tVar 3) tNil))) [3]) tNil)))))
theorem W_meets (K : PySem.W.Frag) (ds : List PyData) (Φ : Rv → Prop) (s : Addr) (p : P_meets ds Φ) : Wz K (t_meets K) false s ds 1 Φ := by
  obtain ⟨n, dms, cs, rfl, G, C, q⟩ := p
  show Ws K _ [.dat (.int n), .dat (.tuple (dmsD dms)), .dat (.tuple (intsD cs)), .un] _ _ _ _
  have g3 := G.len
  have c1 := C.len
  unfold t_meets
  refine ws_seq (ws_drop ?_)
  walk_at "z"
  refine ⟨n, dms, rfl, G, _, rfl, ws_seq (ws_drop ?_)⟩
  walk_at "z"
  refine ⟨n, cs, rfl, C, G.hi, _, rfl, ws_ret ?_⟩
  walk_at "z"
  refine wd_f (wf_mapL Dm (by walk_at "v") ?_)
  walk_at "z"
  refine ⟨dms, dmD, fun d => .bool (metB cs d), rfl, sl24 (by omega), fun a ha => ?_, ?_⟩
  · walk_at "z"
    obtain ⟨h1, h2, _⟩ := G.all a ha
    exact ⟨cs, a, rfl, by omega, by omega, _, rfl, rfl⟩
  · refine ⟨_, rfl, dms.map (metB cs), by simp, kpF, ?_⟩
    have e : (dms.map (metB cs)).all id = dms.all (metB cs) := by rw [List.all_map]; rfl
    rw [e]; exact q
def brk (cs : List Int) (dms : List Dm) : List Nat := (dms.zipIdx.filter fun x => !metB cs x.1).map (·.2)
abbrev natsD (l : List Nat) : List PyData := l.map fun k => .int (k : Nat)
abbrev P_broken_demands (ds : List PyData) (Φ : Rv → Prop) : Prop := ∃ (n : Nat) (dms : List Dm) (cs : List Int), ds = [.int n, .tuple (dmsD dms), .tuple (intsD cs)] ∧ Good n dms ∧ Cols n cs ∧ Φ (.dat (.tuple (natsD (brk cs dms))))
theorem len_broken_demands (ds : List PyData) (Φ : Rv → Prop) (h : P_broken_demands ds Φ) : ds.length = 3 := by obtain ⟨_, _, _, rfl, _⟩ := h; rfl
def t_broken_demands (K : PySem.W.Frag) : TS :=
  (tSeq (tDrop (tCall (spZ K false P_check_demands) [] E0 (tCons (tVar 0) (tCons (tVar 1) tNil))))
  (tSeq (tDrop (tCall (spZ K false P_check_columns) [] E0 (tCons (tVar 0) (tCons (tVar 2) tNil))))
  (tRet (tCB (rTupleQ K) (tCons (tLc (iEnumQ K (tCons (tVar 1) tNil)) (gTup K 2 (gCons (gName 3) (gCons (gName 4) gNil))) (tNot (tB (tCall (spZ K false P_is_met) [] E0 (tCons (tVar 2) (tCons (tVar 4) tNil))))) (tVar 3) [3, 4]) tNil)))))
theorem W_broken_demands (K : PySem.W.Frag) (ds : List PyData) (Φ : Rv → Prop) (s : Addr) (p : P_broken_demands ds Φ) : Wz K (t_broken_demands K) false s ds 2 Φ := by
  obtain ⟨n, dms, cs, rfl, G, C, q⟩ := p
  show Ws K _ [.dat (.int n), .dat (.tuple (dmsD dms)), .dat (.tuple (intsD cs)), .un, .un] _ _ _ _
  have g3 := G.len
  have c1 := C.len
  unfold t_broken_demands
  refine ws_seq (ws_drop ?_)
  walk_at "z"
  refine ⟨n, dms, rfl, G, _, rfl, ws_seq (ws_drop ?_)⟩
  walk_at "z"
  refine ⟨n, cs, rfl, C, G.hi, _, rfl, ws_ret ?_⟩
  walk_at "z"
  refine wd_f (wf_fmL (Dm × Nat) (by walk_at "v") ?_)
  walk_at "z"
  refine ⟨_, .inl rfl, dms.zipIdx, fun x => .tuple [.int (x.2 : Nat), dmD x.1], fun x => !metB cs x.1, fun x => .int (x.2 : Nat), enumD_map, by rw [List.length_zipIdx]; exact sl24 (by omega), fun a ha => ?_, ?_⟩
  · walk_at "z"
    have hm := List.mem_of_getElem? (mem_zipIdx' ha)
    obtain ⟨h1, h2, _⟩ := G.all a.1 hm
    refine ⟨cs, a.1, rfl, by omega, by omega, _, rfl, _, rfl, rfl, fun _ => ?_⟩
    walk_at "z"
    rfl
  · refine ⟨_, rfl, _, .inl rfl, kpF, ?_⟩
    have e : ((dms.zipIdx.filter fun x => !metB cs x.1).map fun x => PyData.int (x.2 : Nat)) = natsD (brk cs dms) := by
      unfold brk natsD; rw [List.map_map]; rfl
    rw [e]; exact q
/-! ### raised -/
def oD : Option Int → PyData | none => .none | some a => .int a
def oLe (a b : Option Int) : Prop := ∀ x, a = some x → ∃ y, b = some y ∧ x ≤ y
def oAdd (a : Option Int) (w : Int) : Option Int := a.map (· + w)
structure Fix (n : Nat) (dms : List Dm) (vals F : Nat → Option Int) (r : Nat → Nat) : Prop where
  pl : ∀ d ∈ dms, d.1 < n ∧ d.2.1 < n
  rk : ∀ d ∈ dms, r d.2.1 < r d.1
  rn : ∀ x, x < n → r x < n
  lo : ∀ x, x < n → oLe (vals x) (F x)
  up : ∀ d ∈ dms, oLe (oAdd (F d.2.1) d.2.2) (F d.1)
  by_ : ∀ x, x < n → F x = vals x ∨ ∃ d ∈ dms, d.1 = x ∧ F x = oAdd (F d.2.1) d.2.2
abbrev tabD (n : Nat) (f : Nat → Option Int) : List PyData := (List.range n).map fun x => oD (f x)
abbrev P_raised (ds : List PyData) (Φ : Rv → Prop) : Prop := ∃ (n : Nat) (dms : List Dm) (vals F : Nat → Option Int) (r : Nat → Nat) (D : PyData), ds = [.int n, D, .list (tabD n vals)] ∧ (D = .tuple (dmsD dms) ∨ D = .list (dmsD dms)) ∧ n ≤ 1000 ∧ dms.length ≤ 4000 ∧ Fix n dms vals F r ∧
  ∀ cs : List PyData, Φ (.dat (.tuple [.list (tabD n F), .list cs, .none]))
theorem len_raised (ds : List PyData) (Φ : Rv → Prop) (h : P_raised ds Φ) : ds.length = 3 := by obtain ⟨_, _, _, _, _, _, rfl, _⟩ := h; rfl
theorem oLe.refl (a : Option Int) : oLe a a := fun x h => ⟨x, h, Int.le_refl _⟩
theorem oLe.trans {a b c : Option Int} (h : oLe a b) (g : oLe b c) : oLe a c := fun x hx => by
  obtain ⟨y, hy, h1⟩ := h x hx
  obtain ⟨z, hz, h2⟩ := g y hy
  exact ⟨z, hz, Int.le_trans h1 h2⟩
theorem oLe.eq {a b : Option Int} (h : oLe a b) (g : oLe b a) : a = b := by
  cases a with
  | none => cases b with
    | none => rfl
    | some y => obtain ⟨_, h1, _⟩ := g y rfl; cases h1
  | some x =>
    obtain ⟨y, rfl, h1⟩ := h x rfl
    obtain ⟨z, h2, h3⟩ := g y rfl
    cases h2
    rw [Int.le_antisymm h1 h3]
theorem oLe.add {a b : Option Int} (h : oLe a b) (w : Int) : oLe (oAdd a w) (oAdd b w) := fun x hx => by
  cases a with
  | none => cases hx
  | some v =>
    obtain ⟨y, rfl, h1⟩ := h v rfl
    have hx : some (v + w) = some x := hx
    cases hx
    exact ⟨y + w, rfl, by omega⟩
theorem oLe.non (a : Option Int) : oLe none a := fun _ h => by cases h
theorem tabD_at {n k : Nat} {f : Nat → Option Int} (h : k < n) : (tabD n f)[k]? = some (oD (f k)) := by simp [tabD, h]
theorem tabD_len {n : Nat} {f : Nat → Option Int} : (tabD n f).length = n := by simp [tabD]
def putF (f : Nat → Option Int) (k : Nat) (v : Option Int) : Nat → Option Int := fun j => if j = k then v else f j
theorem tabD_set {n k : Nat} {f : Nat → Option Int} {v : Option Int} (h : k < n) : (tabD n f).set k (oD v) = tabD n (putF f k v) := by
  apply List.ext_getElem?
  intro j
  rw [List.getElem?_set]
  by_cases e : k = j
  · subst e
    simp [tabD, h, putF]
  · by_cases hj : j < n
    · rw [if_neg e, tabD_at hj, tabD_at hj]
      simp [putF, Ne.symm e]
    · rw [if_neg e, List.getElem?_eq_none (by simp; omega), List.getElem?_eq_none (by simp; omega)]
/-- a set of values on its way -/
structure Way (n : Nat) (dms : List Dm) (vals F f : Nat → Option Int) (r : Nat → Nat) (t : Nat) : Prop where
  lo : ∀ x, x < n → oLe (vals x) (f x)
  hi : ∀ x, x < n → oLe (f x) (F x)
  ex : ∀ x, x < n → r x < t → f x = F x
/-- the k-th demand of the t-th round has been seen -/
structure Seen (n : Nat) (dms : List Dm) (vals F f0 f : Nat → Option Int) (r : Nat → Nat) (t k : Nat) (late : PyData) : Prop where
  w : Way n dms vals F f r t
  got : ∀ d ∈ dms.take k, r d.2.1 < t → oLe (oAdd (F d.2.1) d.2.2) (f d.1)
  l0 : late = .none ∧ f = f0 ∧ (∀ d ∈ dms.take k, oLe (oAdd (f d.2.1) d.2.2) (f d.1)) ∨ (∃ a : Nat, late = .int a) ∧ ∃ x, x < n ∧ f0 x ≠ F x
section
variable {n : Nat} {dms : List Dm} {vals F f f0 : Nat → Option Int} {r : Nat → Nat} {t k : Nat} {late : PyData}
theorem Way.start (X : Fix n dms vals F r) : Way n dms vals F vals r 0 := ⟨fun _ _ => .refl _, X.lo, fun x _ h => absurd h (Nat.not_lt_zero _)⟩
theorem Seen.start (W : Way n dms vals F f r t) : Seen n dms vals F f f r t 0 .none :=
  ⟨W, fun d h => by simp at h, .inl ⟨rfl, rfl, fun d h => by simp at h⟩⟩
theorem Seen.skip (X : Fix n dms vals F r) (S : Seen n dms vals F f0 f r t k late) {d : Dm} (hd : dms[k]? = some d) (h : oLe (oAdd (f d.2.1) d.2.2) (f d.1)) : Seen n dms vals F f0 f r t (k + 1) late := by
  have hm := List.mem_of_getElem? hd
  obtain ⟨p1, p2⟩ := X.pl d hm
  refine ⟨S.w, fun e he hr => ?_, ?_⟩
  · rw [take_succ_get hd] at he
    rcases List.mem_append.mp he with z | z
    · exact S.got e z hr
    · rw [List.mem_singleton.mp z] at hr ⊢
      rw [← S.w.ex _ p2 hr]; exact h
  · rcases S.l0 with ⟨h1, h2, h3⟩ | h1
    · refine .inl ⟨h1, h2, fun e he => ?_⟩
      rw [take_succ_get hd] at he
      rcases List.mem_append.mp he with z | z
      · exact h3 e z
      · rw [List.mem_singleton.mp z]; exact h
    · exact .inr h1
theorem Seen.put (X : Fix n dms vals F r) (S : Seen n dms vals F f0 f r t k late) (W0 : Way n dms vals F f0 r t) {d : Dm} (hd : dms[k]? = some d) {a : Int} (ha : f d.2.1 = some a) (h : ¬ oLe (some (a + d.2.2)) (f d.1)) :
    Seen n dms vals F f0 (putF f d.1 (some (a + d.2.2))) r t (k + 1) (.int (d.1 : Nat)) := by
  have hm := List.mem_of_getElem? hd
  obtain ⟨p1, p2⟩ := X.pl d hm
  have hr := X.rk d hm
  have hup : oLe (some (a + d.2.2)) (F d.1) := by
    have h1 := (S.w.hi _ p2).add d.2.2
    rw [ha] at h1
    exact h1.trans (X.up d hm)
  have mono : ∀ x, oLe (f x) (putF f d.1 (some (a + d.2.2)) x) := fun x => by
    unfold putF
    by_cases e : x = d.1
    · rw [if_pos e, e]
      intro v hv
      refine ⟨_, rfl, ?_⟩
      apply Int.not_lt.mp
      intro hlt
      exact h fun y hy => by cases hy; exact ⟨v, hv, by omega⟩
    · rw [if_neg e]; exact .refl _
  have top : ∀ x, x < n → oLe (putF f d.1 (some (a + d.2.2)) x) (F x) := fun x hx => by
    unfold putF
    by_cases e : x = d.1
    · rw [if_pos e, e]; exact hup
    · rw [if_neg e]; exact S.w.hi x hx
  refine ⟨⟨fun x hx => (S.w.lo x hx).trans (mono x), top, fun x hx ht => ?_⟩, fun e he hr' => ?_, .inr ⟨⟨d.1, rfl⟩, ?_⟩⟩
  · exact (top x hx).eq (by rw [← S.w.ex x hx ht]; exact mono x)
  · rw [take_succ_get hd] at he
    rcases List.mem_append.mp he with z | z
    · exact (S.got e z hr').trans (mono _)
    · rw [List.mem_singleton.mp z] at hr' ⊢
      rw [← S.w.ex _ p2 hr', ha]
      unfold putF
      rw [if_pos rfl]
      exact .refl _
  · rcases S.l0 with ⟨_, h2, _⟩ | ⟨_, h2⟩
    · refine ⟨d.1, p1, fun z => h ?_⟩
      rw [h2, z]
      exact hup
    · exact h2
theorem Seen.round (X : Fix n dms vals F r) (S : Seen n dms vals F f0 f r t dms.length late) : Way n dms vals F f r (t + 1) := by
  refine ⟨S.w.lo, S.w.hi, fun x hx ht => ?_⟩
  rcases X.by_ x hx with h | ⟨d, hd, h1, h2⟩
  · exact (S.w.hi x hx).eq (by rw [h]; exact S.w.lo x hx)
  · refine (S.w.hi x hx).eq ?_
    subst h1
    rw [h2]
    exact S.got d (by rw [List.take_length]; exact hd) (by have := X.rk d hd; omega)
theorem Seen.last (X : Fix n dms vals F r) (S : Seen n dms vals F f0 f r t dms.length .none) : ∀ x, x < n → f x = F x := by
  rcases S.l0 with ⟨_, _, h3⟩ | ⟨⟨_, h⟩, _⟩
  · have go : ∀ m x, r x < m → x < n → f x = F x := by
      intro m
      induction m with
      | zero => intro x h; exact absurd h (Nat.not_lt_zero _)
      | succ m ih =>
        intro x hx hn
        rcases X.by_ x hn with h | ⟨d, hd, h1, h2⟩
        · exact (S.w.hi x hn).eq (by rw [h]; exact S.w.lo x hn)
        · refine (S.w.hi x hn).eq ?_
          subst h1
          rw [h2, ← ih _ (by have := X.rk d hd; omega) (X.pl d hd).2]
          exact h3 d (by rw [List.take_length]; exact hd)
    exact fun x hx => go _ x (Nat.lt_succ_self _) hx
  · cases h
end
theorem enumD_dms {dms : List Dm} {k : Nat} {x : PyData} (h : (enumD (dmsD dms))[k]? = some x) : ∃ d, dms[k]? = some d ∧ x = .tuple [.int (k : Nat), dmD d] := by
  obtain ⟨y, h1, rfl⟩ := enumD_get h
  rw [List.getElem?_map, Option.map_eq_some_iff] at h1
  obtain ⟨d, h2, rfl⟩ := h1
  exact ⟨d, h2, rfl⟩
abbrev ΓL (n : Nat) (D : PyData) (vals : Nat → Option Int) (xs : List PyData) (p q : Addr) (cs : List PyData) (a b c d e g : Sl) : List Sl :=
  [.dat (.int n), .dat D, .dat (.list (tabD n vals)), .own p (.lst xs), .own q (.lst cs), a, b, c, d, e, g]
abbrev ΓR (n : Nat) (D : PyData) (vals f : Nat → Option Int) (p q : Addr) (cs : List PyData) (a b c d e g : Sl) : List Sl := ΓL n D vals (tabD n f) p q cs a b c d e g
def t_raised (K : PySem.W.Frag) : TS :=
  (tSeq (tPar 3 4 (tCons (tCB (rListQ K) (tCons (tVar 2) tNil)) (tCons (tOp rRep (tLst (tCons (tC .non) tNil)) (tVar 0)) tNil)))
  (tSeq (tFor (iRng1 (tCons (tOp rAddI (tVar 0) (tC (.int 1))) tNil)) (gName 5) (tSeq (tAsg (tC .non) (gName 6))
  (tSeq (tFor (iEnumQ K (tCons (tVar 1) tNil)) (gTup K 2 (gCons (gName 7) (gCons (gTup K 3 (gCons (gName 8) (gCons (gName 9) (gCons (gName 10) gNil)))) gNil))) (tIfS (tAnd (tTest (tOp rNotN (tOp (rIx K) (tVar 3) (tVar 9)) (tC .non))) (tOr (tTest (tOp rIsN (tOp (rIx K) (tVar 3) (tVar 8)) (tC .non))) (tTest (tOp rLtI (tOp (rIx K) (tVar 3) (tVar 8)) (tOp rAddI (tOp (rIx K) (tVar 3) (tVar 9)) (tVar 10)))))) (tAsg (tTup (tCons (tOp rAddI (tOp (rIx K) (tVar 3) (tVar 9)) (tVar 10)) (tCons (tVar 7) (tCons (tVar 8) tNil)))) (gTup K 3 (gCons (gSub (tVar 3) (tVar 8) rSetL) (gCons (gSub (tVar 4) (tVar 8) rSetL) (gCons (gName 6) gNil))))) tNext))
  (tIfS (tTest (tOp rIsN (tVar 6) (tC .non))) tBreak tNext))))
  (tRet (tTup (tCons (tVar 3) (tCons (tVar 4) (tCons (tVar 6) tNil)))))))
theorem W_raised (K : PySem.W.Frag) (ds : List PyData) (Φ : Rv → Prop) (s : Addr) (p : P_raised ds Φ) : Wz K (t_raised K) false s ds 8 Φ := by
  obtain ⟨n, dms, vals, F, r, D, rfl, hD, hn, hl, X, q⟩ := p
  show Ws K _ [.dat (.int n), .dat D, .dat (.list (tabD n vals)), .un, .un, .un, .un, .un, .un, .un, .un] _ _ _ _
  unfold t_raised
  refine ws_seq (ws_parM ?_)
  walk_at "z"
  refine ⟨_, .inl rfl, fun p1 => ?_⟩
  walk_at "z"
  refine ⟨by omega, by rw [sizeLine_eq]; omega, fun q1 => wam_nil ⟨_, _, rfl, ?_⟩⟩
  rw [show ((n : Int).toNat) = n from Int.toNat_natCast n]
  refine ws_seq (ws_for ?_)
  walk_at "z"
  refine ⟨by omega, by omega, ?_⟩
  rw [show ((n : Int) + 1).toNat = n + 1 by omega]
  refine ⟨fun t Γ' => t ≤ n ∧ ∃ f cs a b c d e g, Γ' = ΓR n D vals f p1 q1 cs a b c d e g ∧ cs.length = n ∧ Way n dms vals F f r t, ⟨Nat.zero_le _, vals, _, .un, .un, .un, .un, .un, .un, rfl, List.length_replicate, Way.start X⟩, fun t d Γ' ht hI => ?_, fun Γ' hI => ?_⟩
  · obtain ⟨ht', rfl⟩ := rangeD_get ht
    obtain ⟨htn, f, cs, a, b, c, d, e, g, rfl, hcs, W⟩ := hI
    walk_at "z"
    refine ws_seq (ws_set ?_)
    walk_at "z"
    refine ws_seq (ws_for ?_)
    walk_at "z"
    refine ⟨dms.map dmD, hD, fun k Γ' => ∃ f' cs' late c d e g, Γ' = ΓR n D vals f' p1 q1 cs' (.dat (.int (0 + (t : Int)))) (.dat late) c d e g ∧ cs'.length = n ∧ Seen n dms vals F f f' r t k late,
      ⟨f, cs, .none, c, d, e, g, rfl, hcs, Seen.start W⟩, fun k x Γ' hk hI => ?_, fun Γ' hI => ?_⟩
    · obtain ⟨d0, hd, rfl⟩ := enumD_dms hk
      obtain ⟨f', cs', late, c, d, e, g, rfl, hcs', S⟩ := hI
      obtain ⟨x1, x2⟩ := X.pl d0 (List.mem_of_getElem? hd)
      obtain ⟨x, y, w⟩ := d0
      simp only at x1 x2
      walk_at "z"
      cases hy : f' y with
      | none =>
        refine ws_ifF ?_ (ws_next ⟨f', cs', late, _, _, _, _, rfl, hcs', S.skip X hd (by show oLe (oAdd (f' y) w) (f' x); rw [hy]; exact oLe.non _)⟩)
        walk_at "z"
        refine ⟨_, _, _, .inl rfl, rfl, atI_nat (tabD_at x2), ?_⟩
        rw [hy]
        walk_at "z"
        exact ⟨fun h => (by cases h), fun _ => rfl⟩
      | some a =>
        have put : ∀ (Bk Ct : List Sl → Prop), ¬ oLe (some (a + w)) (f' x) → Ws K (tAsg (tTup (tCons (tOp rAddI (tOp (rIx K) (tVar 3) (tVar 9)) (tVar 10)) (tCons (tVar 7) (tCons (tVar 8) tNil)))) (gTup K 3 (gCons (gSub (tVar 3) (tVar 8) rSetL) (gCons (gSub (tVar 4) (tVar 8) rSetL) (gCons (gName 6) gNil)))))
            (ΓR n D vals f' p1 q1 cs' (.dat (.int (0 + (t : Int)))) (.dat late) (.dat (.int (k : Nat))) (.dat (.int (x : Nat))) (.dat (.int (y : Nat))) (.dat (.int w)))
            (fun Γ' => ∃ f' cs' late c d e g, Γ' = ΓR n D vals f' p1 q1 cs' (.dat (.int (0 + (t : Int)))) (.dat late) c d e g ∧ cs'.length = n ∧ Seen n dms vals F f f' r t (k + 1) late) (fun Γ' r => Kp false s Γ' ∧ Φ r) Bk Ct := fun _ _ hn => by
          refine ws_asg ?_
          walk_at "z"
          refine ⟨_, _, _, .inl rfl, rfl, atI_nat (tabD_at x2), ?_⟩
          rw [hy]
          walk_at "z"
          refine wg_item trivial rfl ?_
          walk_at "z"
          refine ⟨_, _, rfl, by rw [tabD_len]; exact ixN_nat x1, ?_⟩
          walk_at "z"
          refine wg_item trivial rfl ?_
          walk_at "z"
          refine ⟨_, _, rfl, by rw [hcs']; exact ixN_nat x1, ?_⟩
          walk_at "z"
          exact ⟨putF f' x (some (a + w)), cs'.set x (.int (k : Nat)), .int (x : Nat), _, _, _, _, congrArg (fun z => ΓL n D vals z p1 q1 (cs'.set x (.int (k : Nat))) (.dat (.int (0 + (t : Int)))) (.dat (.int (x : Nat))) (.dat (.int (k : Nat))) (.dat (.int (x : Nat))) (.dat (.int (y : Nat))) (.dat (.int w))) (tabD_set (v := some (a + w)) x1), by rw [List.length_set]; exact hcs', S.put X W hd hy hn⟩
        cases hx : f' x with
        | none =>
          refine ws_ifT ?_ (put _ _ (by rw [hx]; intro h; obtain ⟨_, z, _⟩ := h _ rfl; cases z))
          walk_at "z"
          refine ⟨_, _, _, .inl rfl, rfl, atI_nat (tabD_at x2), ?_⟩
          rw [hy]
          walk_at "z"
          refine ⟨fun _ => ?_, fun h => (by cases h)⟩
          walk_at "z"
          refine ⟨_, _, _, .inl rfl, rfl, atI_nat (tabD_at x1), ?_⟩
          rw [hx]
          walk_at "z"
          exact ⟨fun _ => rfl, fun h => (by cases h)⟩
        | some b =>
          have test : Wt K (tAnd (tTest (tOp rNotN (tOp (rIx K) (tVar 3) (tVar 9)) (tC .non))) (tOr (tTest (tOp rIsN (tOp (rIx K) (tVar 3) (tVar 8)) (tC .non))) (tTest (tOp rLtI (tOp (rIx K) (tVar 3) (tVar 8)) (tOp rAddI (tOp (rIx K) (tVar 3) (tVar 9)) (tVar 10))))))
              (ΓR n D vals f' p1 q1 cs' (.dat (.int (0 + (t : Int)))) (.dat late) (.dat (.int (k : Nat))) (.dat (.int (x : Nat))) (.dat (.int (y : Nat))) (.dat (.int w))) fun v => v = decide (b < a + w) := by
            walk_at "z"
            refine ⟨_, _, _, .inl rfl, rfl, atI_nat (tabD_at x2), ?_⟩
            rw [hy]
            walk_at "z"
            refine ⟨fun _ => ?_, fun h => (by cases h)⟩
            walk_at "z"
            refine ⟨_, _, _, .inl rfl, rfl, atI_nat (tabD_at x1), ?_⟩
            rw [hx]
            walk_at "z"
            refine ⟨fun h => (by cases h), fun _ => ?_⟩
            walk_at "z"
            refine ⟨_, _, _, .inl rfl, rfl, atI_nat (tabD_at x1), ?_⟩
            rw [hx]
            walk_at "z"
            refine ⟨_, _, _, .inl rfl, rfl, atI_nat (tabD_at x2), ?_⟩
            rw [hy]
            walk_at "z"
            rfl
          refine ws_ifB _ test (fun h => put _ _ ?_) fun h => ws_next ⟨f', cs', late, _, _, _, _, rfl, hcs', S.skip X hd ?_⟩
          · have h := of_decide_eq_true h
            rw [hx]
            intro z
            obtain ⟨v, z1, z2⟩ := z _ rfl
            cases z1
            omega
          · have h := of_decide_eq_false h
            show oLe (oAdd (f' y) w) (f' x)
            rw [hy, hx]
            intro v hv
            have hv : some (a + w) = some v := hv
            cases hv
            exact ⟨b, rfl, by omega⟩
    · obtain ⟨f', cs', late, c, d, e, g, rfl, hcs', S⟩ := hI
      have S : Seen n dms vals F f f' r t dms.length late := by
        have e1 : (enumD (List.map dmD dms)).length = dms.length := by rw [enumD_len, List.length_map]
        rw [e1] at S; exact S
      rcases S.l0 with ⟨h1, h2, h3⟩ | ⟨⟨v, h1⟩, z, hz, hne⟩
      · subst h1
        refine ws_ifT ?_ (ws_break (ws_frz 3 rfl (ws_frz 4 rfl (ws_ret ?_))))
        · walk_at "z"
          rfl
        · walk_at "z"
          have ex := S.last X
          have e1 : tabD n f' = tabD n F := List.map_congr_left fun x hx => by rw [ex x (List.mem_range.mp hx)]
          rw [e1]
          exact ⟨kpF, q _⟩
      · subst h1
        refine ws_ifF ?_ (ws_next ⟨?_, f', cs', _, _, _, _, _, _, rfl, hcs', S.round X⟩)
        · walk_at "z"
          rfl
        · have := X.rn z hz
          have h4 : ¬ r z < t := fun h => hne (W.ex z hz h)
          omega
  · obtain ⟨h, _⟩ := hI
    rw [rangeD_len] at h
    omega
abbrev listI (n : Nat) (F : Nat → Int) : List Int := (List.range n).map F
theorem tabD_ints {n : Nat} {F : Nat → Int} : tabD n (fun x => some (F x)) = intsD (listI n F) := by simp [tabD, intsD, listI, oD]
theorem tabD_rep {n : Nat} {v : Option Int} : tabD n (fun _ => v) = List.replicate n (oD v) := by
  apply List.ext_getElem?
  intro i
  by_cases h : i < n
  · rw [tabD_at h, List.getElem?_replicate, if_pos h]
  · rw [List.getElem?_eq_none (by simp; omega), List.getElem?_eq_none (by simp; omega)]
theorem ints_at {n k : Nat} {F : Nat → Int} (h : k < n) : (intsD (listI n F))[k]? = some (.int (F k)) := by simp [h]
abbrev FixI (n : Nat) (dms : List Dm) (v : Int) (F : Nat → Int) (r : Nat → Nat) : Prop := Fix n dms (fun _ => some v) (fun x => some (F x)) r
abbrev P_least_among (ds : List PyData) (Φ : Rv → Prop) : Prop := ∃ (n : Nat) (dms : List Dm) (F : Nat → Int) (r : Nat → Nat), ds = [.int n, .tuple (dmsD dms)] ∧ n ≤ 1000 ∧ dms.length ≤ 4000 ∧ FixI n dms 1 F r ∧ Φ (.dat (.tuple (intsD (listI n F))))
theorem len_least_among (ds : List PyData) (Φ : Rv → Prop) (h : P_least_among ds Φ) : ds.length = 2 := by obtain ⟨_, _, _, _, rfl, _⟩ := h; rfl
def t_least_among (K : PySem.W.Frag) : TS :=
  (tSeq (tAsg (tCall (spZ K false P_raised) [] E0 (tCons (tVar 0) (tCons (tVar 1) (tCons (tOp rRep (tLst (tCons (tC (.int 1)) tNil)) (tVar 0)) tNil)))) (gTup K 3 (gCons (gName 2) (gCons (gName 3) (gCons (gName 4) gNil)))))
  (tRet (tIf (tTest (tOp rIsN (tVar 4) (tC .non))) (tCB (rTupleQ K) (tCons (tVar 2) tNil)) (tC .non))))
theorem W_least_among (K : PySem.W.Frag) (ds : List PyData) (Φ : Rv → Prop) (s : Addr) (p : P_least_among ds Φ) : Wz K (t_least_among K) false s ds 3 Φ := by
  obtain ⟨n, dms, F, r, rfl, hn, hl, X, q⟩ := p
  show Ws K _ [.dat (.int n), .dat (.tuple (dmsD dms)), .un, .un, .un] _ _ _ _
  unfold t_least_among
  refine ws_seq (ws_asg ?_)
  walk_at "z"
  refine ⟨by omega, by rw [sizeLine_eq]; omega, ?_⟩
  rw [show ((n : Int).toNat) = n from Int.toNat_natCast n, show PyData.int 1 = oD (some 1) from rfl, ← tabD_rep]
  walk_at "z"
  refine ⟨n, dms, _, _, r, _, rfl, .inl rfl, hn, hl, X, fun cs => ?_⟩
  rw [tabD_ints]
  walk_at "z"
  refine ws_ret ?_
  walk_at "z"
  refine ⟨fun _ => ?_, fun h => (by cases h)⟩
  walk_at "z"
  exact ⟨_, .inl rfl, kpF, q⟩
abbrev P_heaviest_from (ds : List PyData) (Φ : Rv → Prop) : Prop := ∃ (n : Nat) (dms : List Dm) (p : Nat) (F : Nat → Option Int) (r : Nat → Nat), ds = [.int n, .tuple (dmsD dms), .int p] ∧ n ≤ 1000 ∧ dms.length ≤ 4000 ∧ p < n ∧ Fix n dms (putF (fun _ => none) p (some 0)) F r ∧
  ∀ cs : List PyData, Φ (.dat (.tuple [.list (tabD n F), .list cs]))
theorem len_heaviest_from (ds : List PyData) (Φ : Rv → Prop) (h : P_heaviest_from ds Φ) : ds.length = 3 := by obtain ⟨_, _, _, _, _, rfl, _⟩ := h; rfl
def t_heaviest_from (K : PySem.W.Frag) : TS :=
  (tSeq (tAsg (tOp rRep (tLst (tCons (tC .non) tNil)) (tVar 0)) (gName 3))
  (tSeq (tAsg (tC (.int 0)) (gSub (tVar 3) (tVar 2) rSetL))
  (tRet (tSl (rSlA K) (tCall (spZ K false P_raised) [] E0 (tCons (tVar 0) (tCons (tVar 1) (tCons (tVar 3) tNil)))) tNoPart (tPart (tC (.int 2)))))))
theorem W_heaviest_from (K : PySem.W.Frag) (ds : List PyData) (Φ : Rv → Prop) (s : Addr) (p : P_heaviest_from ds Φ) : Wz K (t_heaviest_from K) false s ds 1 Φ := by
  obtain ⟨n, dms, p, F, r, rfl, hn, hl, hp, X, q⟩ := p
  show Ws K _ [.dat (.int n), .dat (.tuple (dmsD dms)), .dat (.int p), .un] _ _ _ _
  unfold t_heaviest_from
  refine ws_seq (ws_setM ?_)
  walk_at "z"
  refine ⟨by omega, by rw [sizeLine_eq]; omega, fun q1 => ?_⟩
  rw [show ((n : Int).toNat) = n from Int.toNat_natCast n, show PyData.none = oD none from rfl, ← tabD_rep]
  refine ws_seq (ws_item (p := q1) rfl ?_)
  walk_at "z"
  refine ⟨_, _, rfl, by rw [tabD_len]; exact ixN_nat hp, ?_⟩
  rw [show PyData.int 0 = oD (some 0) from rfl, tabD_set hp]
  refine ws_frz 3 rfl (ws_ret ?_)
  walk_at "z"
  refine ⟨n, dms, _, _, r, _, rfl, .inl rfl, hn, hl, X, fun cs => ?_⟩
  walk_at "z"
  exact ⟨kpF, q cs⟩
abbrev P_least_columns (ds : List PyData) (Φ : Rv → Prop) : Prop := ∃ (n : Nat) (dms : List Dm) (F : Nat → Int) (r : Nat → Nat), ds = [.int n, .tuple (dmsD dms)] ∧ Good n dms ∧ FixI n dms 1 F r ∧ Φ (.dat (.tuple (intsD (listI n F))))
theorem len_least_columns (ds : List PyData) (Φ : Rv → Prop) (h : P_least_columns ds Φ) : ds.length = 2 := by obtain ⟨_, _, _, _, rfl, _⟩ := h; rfl
def t_least_columns (K : PySem.W.Frag) : TS :=
  (tSeq (tDrop (tCall (spZ K false P_check_demands) [] E0 (tCons (tVar 0) (tCons (tVar 1) tNil))))
  (tRet (tCall (spZ K false P_least_among) [] E0 (tCons (tVar 0) (tCons (tVar 1) tNil)))))
theorem W_least_columns (K : PySem.W.Frag) (ds : List PyData) (Φ : Rv → Prop) (s : Addr) (p : P_least_columns ds Φ) : Wz K (t_least_columns K) false s ds 0 Φ := by
  obtain ⟨n, dms, F, r, rfl, G, X, q⟩ := p
  show Ws K _ [.dat (.int n), .dat (.tuple (dmsD dms))] _ _ _ _
  unfold t_least_columns
  refine ws_seq (ws_drop ?_)
  walk_at "z"
  refine ⟨n, dms, rfl, G, _, rfl, ws_ret ?_⟩
  walk_at "z"
  exact ⟨n, dms, F, r, rfl, G.hi, G.len, X, _, rfl, kpF, q⟩
abbrev turnD (dms : List Dm) : List Dm := dms.map fun d => (d.2.1, d.1, d.2.2)
abbrev P_greatest_columns (ds : List PyData) (Φ : Rv → Prop) : Prop := ∃ (n : Nat) (dms : List Dm) (L O : Nat → Int) (r r' : Nat → Nat) (width : Int), ds = [.int n, .tuple (dmsD dms), .int width] ∧ Good n dms ∧ 1 ≤ width ∧ width ≤ 1000000 ∧ FixI n dms 1 L r ∧ FixI n (turnD dms) 0 O r' ∧
  ((∃ x, x < n ∧ width < L x) → Φ (.dat .none)) ∧ ((∀ x, x < n → L x ≤ width) → Φ (.dat (.tuple (intsD (listI n fun x => width - O x)))))
theorem len_greatest_columns (ds : List PyData) (Φ : Rv → Prop) (h : P_greatest_columns ds Φ) : ds.length = 3 := by obtain ⟨_, _, _, _, _, _, _, rfl, _⟩ := h; rfl
def t_greatest_columns (K : PySem.W.Frag) : TS :=
  (tSeq (tDrop (tCall (spZ K false P_check_demands) [] E0 (tCons (tVar 0) (tCons (tVar 1) tNil))))
  (tSeq (tIfS (tNot (tB (tCall (spZ K false P_is_from_to) [] E0 (tCons (tVar 2) (tCons (tC (.int 1)) (tCons (tC (.int 1000000)) tNil)))))) tNever tNext)
  (tSeq (tAsg (tCall (spZ K false P_least_among) [] E0 (tCons (tVar 0) (tCons (tVar 1) tNil))) (gName 3))
  (tSeq (tIfS (tOr (tTest (tOp rIsN (tVar 3) (tC .non))) (tTest (tOp rGtI (tCB (rMaxT K) (tCons (tVar 3) tNil)) (tVar 2)))) (tRet (tC .non)) tNext)
  (tSeq (tAsg (tLc (iTup K (tVar 1)) (gTup K 3 (gCons (gName 5) (gCons (gName 6) (gCons (gName 7) gNil)))) tYes (tTup (tCons (tVar 6) (tCons (tVar 5) (tCons (tVar 7) tNil)))) [5, 6, 7]) (gName 4))
  (tRet (tCB (rTupleQ K) (tCons (tLc (iList K (tOp (rIx K) (tCall (spZ K false P_raised) [] E0 (tCons (tVar 0) (tCons (tVar 4) (tCons (tOp rRep (tLst (tCons (tC (.int 0)) tNil)) (tVar 0)) tNil)))) (tC (.int 0)))) (gName 8) tYes (tOp rSubI (tVar 2) (tVar 8)) [8]) tNil))))))))
theorem W_greatest_columns (K : PySem.W.Frag) (ds : List PyData) (Φ : Rv → Prop) (s : Addr) (p : P_greatest_columns ds Φ) : Wz K (t_greatest_columns K) false s ds 6 Φ := by
  obtain ⟨n, dms, L, O, r, r', width, rfl, G, w1, w2, X, Y, qn, qy⟩ := p
  show Ws K _ [.dat (.int n), .dat (.tuple (dmsD dms)), .dat (.int width), .un, .un, .un, .un, .un, .un] _ _ _ _
  have g1 := G.lo
  have g2 := G.hi
  have g3 := G.len
  unfold t_greatest_columns
  refine ws_seq (ws_drop ?_)
  walk_at "z"
  refine ⟨n, dms, rfl, G, _, rfl, ws_seq (ws_ifF ?_ (ws_next (ws_seq (ws_set ?_))))⟩
  · walk_at "z"
    simp [w1, w2]
  walk_at "z"
  refine ⟨n, dms, L, r, rfl, G.hi, G.len, X, _, rfl, ?_⟩
  have hne : listI n L ≠ [] := by
    intro z
    have := congrArg List.length z
    simp at this
    omega
  have test : Wt K (tOr (tTest (tOp rIsN (tVar 3) (tC .non))) (tTest (tOp rGtI (tCB (rMaxT K) (tCons (tVar 3) tNil)) (tVar 2)))) [.dat (.int n), .dat (.tuple (dmsD dms)), .dat (.int width), .dat (.tuple (intsD (listI n L))), .un, .un, .un, .un, .un] fun b => b = decide (width < maxI (listI n L)) := by
    walk_at "z"
    refine ⟨fun h => (by cases h), fun _ => ?_⟩
    walk_at "z"
    refine ⟨hne, ?_⟩
    walk_at "z"
    rfl
  refine ws_seq (ws_ifB _ test (fun h => ?_) fun h => ws_next (ws_seq (ws_set ?_)))
  · have h := of_decide_eq_true h
    have hm := maxI_mem hne
    obtain ⟨x, hx, e⟩ := List.mem_map.mp hm
    refine ws_ret ?_
    walk_at "z"
    exact ⟨kpF, qn ⟨x, List.mem_range.mp hx, by rw [e]; exact h⟩⟩
  · have h := of_decide_eq_false h
    have hw : ∀ x, x < n → L x ≤ width := fun x hx => by
      have := maxI_ge (ns := listI n L) (a := L x) (List.mem_map.mpr ⟨x, List.mem_range.mpr hx, rfl⟩)
      omega
    refine wd_f (wf_mapL Dm (by walk_at "v") ?_)
    walk_at "z"
    refine ⟨dms, dmD, fun d => dmD (d.2.1, d.1, d.2.2), rfl, sl24 (by omega), fun a ha => ?_, ?_⟩
    · walk_at "z"
      rfl
    · rw [show (dms.map fun d => dmD (d.2.1, d.1, d.2.2)) = dmsD (turnD dms) by simp [dmsD, turnD]]
      refine ⟨_, rfl, ws_ret ?_⟩
      walk_at "z"
      refine wd_f (wf_mapL Int (by walk_at "v") ?_)
      walk_at "z"
      refine ⟨by omega, by rw [sizeLine_eq]; omega, ?_⟩
      rw [show ((n : Int).toNat) = n from Int.toNat_natCast n, show PyData.int 0 = oD (some 0) from rfl, ← tabD_rep]
      walk_at "z"
      refine ⟨n, turnD dms, _, _, r', _, rfl, .inr rfl, G.hi, by simpa [turnD] using g3, Y, fun cs => ?_⟩
      rw [tabD_ints]
      walk_at "z"
      refine ⟨listI n O, .int, fun a => .int (width - a), rfl, sl24 (by have := G.hi; simp; omega), fun a ha => ?_, ?_⟩
      · walk_at "z"
        rfl
      · refine ⟨_, rfl, _, .inl rfl, kpF, ?_⟩
        rw [show ((listI n O).map fun a => PyData.int (width - a)) = intsD (listI n fun x => width - O x) by simp [intsD, listI]]
        exact qy hw
def wayI (L : Nat → Int) (W : Nat → Option Int) (c : Int) (x : Nat) : Int := match W x with | none => L x | some w => if c + w > L x then c + w else L x
abbrev P_columns_with (ds : List PyData) (Φ : Rv → Prop) : Prop := ∃ (n : Nat) (dms : List Dm) (L : Nat → Int) (W : Nat → Option Int) (r r' : Nat → Nat) (p : Nat) (c : Int), ds = [.int n, .tuple (dmsD dms), .int p, .int c] ∧ Good n dms ∧ p < n ∧ 1 ≤ c ∧ c ≤ 1000000 ∧ FixI n dms 1 L r ∧ Fix n dms (putF (fun _ => none) p (some 0)) W r' ∧
  (c < L p → Φ (.dat .none)) ∧ (L p ≤ c → Φ (.dat (.tuple (intsD (listI n (wayI L W c))))))
theorem len_columns_with (ds : List PyData) (Φ : Rv → Prop) (h : P_columns_with ds Φ) : ds.length = 4 := by obtain ⟨_, _, _, _, _, _, _, _, rfl, _⟩ := h; rfl
theorem zipD_map {α : Type} {f g : α → PyData} : ∀ {l : List α}, zipD (l.map f) (l.map g) = l.map fun x => .tuple [f x, g x]
  | [] => rfl
  | _ :: l => by simp only [List.map_cons, zipD, zipD_map (l := l)]
def t_columns_with (K : PySem.W.Frag) : TS :=
  (tSeq (tDrop (tCall (spZ K false P_check_demands) [] E0 (tCons (tVar 0) (tCons (tVar 1) tNil))))
  (tSeq (tIfS (tNot (tB (tCall (spZ K false P_is_from_to) [] E0 (tCons (tVar 2) (tCons (tC (.int 0)) (tCons (tOp rSubI (tVar 0) (tC (.int 1))) tNil)))))) tNever tNext)
  (tSeq (tIfS (tNot (tB (tCall (spZ K false P_is_from_to) [] E0 (tCons (tVar 3) (tCons (tC (.int 1)) (tCons (tC (.int 1000000)) tNil)))))) tNever tNext)
  (tSeq (tAsg (tCall (spZ K false P_least_among) [] E0 (tCons (tVar 0) (tCons (tVar 1) tNil))) (gName 4))
  (tSeq (tIfS (tOr (tTest (tOp rIsN (tVar 4) (tC .non))) (tTest (tOp rGtI (tOp (rIx K) (tVar 4) (tVar 2)) (tVar 3)))) (tRet (tC .non)) tNext)
  (tSeq (tAsg (tOp (rIx K) (tCall (spZ K false P_heaviest_from) [] E0 (tCons (tVar 0) (tCons (tVar 1) (tCons (tVar 2) tNil)))) (tC (.int 0))) (gName 5))
  (tRet (tCB (rTupleQ K) (tCons (tLc (iZipQ K (tCons (tVar 4) (tCons (tVar 5) tNil))) (gTup K 2 (gCons (gName 6) (gCons (gName 7) gNil))) tYes (tIf (tTest (tOp rIsN (tVar 7) (tC .non))) (tVar 6) (tCB rMax2Q (tCons (tVar 6) (tCons (tOp rAddI (tVar 3) (tVar 7)) tNil)))) [6, 7]) tNil)))))))))
theorem W_columns_with (K : PySem.W.Frag) (ds : List PyData) (Φ : Rv → Prop) (s : Addr) (p : P_columns_with ds Φ) : Wz K (t_columns_with K) false s ds 4 Φ := by
  obtain ⟨n, dms, L, W, r, r', p, c, rfl, G, hp, c1, c2, X, Y, qn, qy⟩ := p
  show Ws K _ [.dat (.int n), .dat (.tuple (dmsD dms)), .dat (.int p), .dat (.int c), .un, .un, .un, .un] _ _ _ _
  have g1 := G.lo
  have g2 := G.hi
  have g3 := G.len
  unfold t_columns_with
  refine ws_seq (ws_drop ?_)
  walk_at "z"
  refine ⟨n, dms, rfl, G, _, rfl, ws_seq (ws_ifF ?_ (ws_next (ws_seq (ws_ifF ?_ (ws_next (ws_seq (ws_set ?_)))))))⟩
  · walk_at "z"
    simp; omega
  · walk_at "z"
    simp [c1, c2]
  walk_at "z"
  refine ⟨n, dms, L, r, rfl, G.hi, G.len, X, _, rfl, ?_⟩
  have test : Wt K (tOr (tTest (tOp rIsN (tVar 4) (tC .non))) (tTest (tOp rGtI (tOp (rIx K) (tVar 4) (tVar 2)) (tVar 3)))) [.dat (.int n), .dat (.tuple (dmsD dms)), .dat (.int p), .dat (.int c), .dat (.tuple (intsD (listI n L))), .un, .un, .un] fun b => b = decide (c < L p) := by
    walk_at "z"
    refine ⟨fun h => (by cases h), fun _ => ?_⟩
    walk_at "z"
    refine ⟨_, _, _, .inr rfl, rfl, atI_nat (ints_at hp), ?_⟩
    walk_at "z"
    rfl
  refine ws_seq (ws_ifB _ test (fun h => ?_) fun h => ws_next (ws_seq (ws_set ?_)))
  · have h := of_decide_eq_true h
    refine ws_ret ?_
    walk_at "z"
    exact ⟨kpF, qn h⟩
  · have h := of_decide_eq_false h
    walk_at "z"
    refine ⟨n, dms, p, W, r', rfl, G.hi, G.len, hp, Y, fun cs => ?_⟩
    walk_at "z"
    refine ws_ret ?_
    walk_at "z"
    refine wd_f (wf_mapL Nat (by walk_at "v") ?_)
    walk_at "z"
    refine ⟨_, _, .inl rfl, .inr rfl, List.range n, fun x => .tuple [.int (L x), oD (W x)], fun x => .int (wayI L W c x), ?_, sl24 (by have := G.hi; simp; omega), fun a ha => ?_, ?_⟩
    · rw [intsD, List.map_map]; exact zipD_map
    · walk_at "z"
      unfold wayI
      cases hW : W a with
      | none =>
        refine ⟨fun _ => ?_, fun h => (by cases h)⟩
        walk_at "z"
        simp only [hW]
      | some b =>
        refine ⟨fun h => (by cases h), fun _ => ?_⟩
        walk_at "z"
        simp only [hW]
    · refine ⟨_, rfl, _, .inl rfl, kpF, ?_⟩
      rw [show ((List.range n).map fun x => PyData.int (wayI L W c x)) = intsD (listI n (wayI L W c)) by simp [intsD, listI]]
      exact qy (by omega)
/-! ### the law's stream -/
abbrev P__law_stream (ds : List PyData) (Φ : Rv → Prop) : Prop := ∃ ns : List Int, ds = [.list (intsD ns)] ∧ Φ (.obj .strm)
theorem len__law_stream (ds : List PyData) (Φ : Rv → Prop) (h : P__law_stream ds Φ) : ds.length = 1 := by obtain ⟨_, rfl, _⟩ := h; rfl
def t__law_stream (K : PySem.W.Frag) : TS :=
  (tRet (tLst (tCons (tCB (rListQ K) (tCons (tVar 0) tNil)) (tCons (tC (.int 0)) (tCons (tC (.int 0)) tNil)))))
theorem W__law_stream (K : PySem.W.Frag) (ds : List PyData) (Φ : Rv → Prop) (s : Addr) (p : P__law_stream ds Φ) : Wz K (t__law_stream K) false s ds 0 Φ := by
  obtain ⟨ns, rfl, q⟩ := p
  show Ws K _ [.dat (.list (intsD ns))] _ _ _ _
  unfold t__law_stream
  refine ws_retF (wf_strm (wf_list ?_))
  walk_at "z"
  exact ⟨_, .inl rfl, ⟨ns, rfl⟩, kpF, q⟩
abbrev P__law_next (ds : List PyData) (Φ : Rv → Prop) : Prop := ∃ m : Int, ds = [.int m] ∧ 0 < m ∧ m < 1073741824 ∧ ∀ d : Int, 0 ≤ d → d < m → Φ (.dat (.int d))
theorem len__law_next (ds : List PyData) (Φ : Rv → Prop) (h : P__law_next ds Φ) : ds.length = 1 := by obtain ⟨_, rfl, _⟩ := h; rfl
theorem eqv_int {i j : Int} : PyData.eqv (.int i) (.int j) = decide (i = j) := by
  first | rfl | (simp [PyData.eqv]; done) | (unfold PyData.eqv; simp; done) | (unfold PyData.eqv; rfl)
def t__law_next (K : PySem.W.Frag) : TS :=
  (tSeq (tIfS (tTest (tOp (rEqD K) (tOp (rIx K) (tVar 0) (tC (.int 1))) (tC (.int 0)))) (tSeq (tAsg (tOp (rIx K) (tVar 0) (tC (.int 2))) (gName 2))
  (tSeq (tAsg (tOp rAddI (tC (.int 7)) (tVar 2)) (gName 3))
  (tSeq (tIfS (tTest (tOp rLtI (tVar 2) (tCB (rLenQ K) (tCons (tOp (rIx K) (tVar 0) (tC (.int 0))) tNil)))) (tAsg (tOp rModI (tCB rIntQ (tCons (tCB rAbsQ (tCons (tOp (rIx K) (tOp (rIx K) (tVar 0) (tC (.int 0))) (tVar 2)) tNil)) tNil)) (tOp rPowI (tC (.int 10)) (tC (.int 60)))) (gName 3)) tNext)
  (tSeq (tIfS (tTest (tOp rLtI (tVar 3) (tOp rPowI (tC (.int 10)) (tC (.int 18))))) (tSeq (tAsg (tOp rModI (tCB rIntQ (tCons (tOp rAddI (tOp rAddI (tOp rMulI (tVar 3) (tC (.int 48271))) (tOp rMulI (tVar 2) (tC (.int 69621)))) (tC (.int 11))) tNil)) (tC (.int 2147483647))) (gName 3))
  (tAsg (tOp rAddI (tOp rMulI (tOp rModI (tCB rIntQ (tCons (tOp rAddI (tOp rMulI (tVar 3) (tC (.int 16807))) (tC (.int 13))) tNil)) (tC (.int 2147483647))) (tC (.int 65537))) (tVar 3)) (gName 3))) tNext)
  (tSeq (tAsg (tVar 3) (gSub (tVar 0) (tC (.int 1)) rSetL))
  (tAsg (tOp rAddI (tVar 2) (tC (.int 1))) (gSub (tVar 0) (tC (.int 2)) rSetL))))))) tNext)
  (tSeq (tAsg (tOp rModI (tCB rIntQ (tCons (tOp (rIx K) (tVar 0) (tC (.int 1))) tNil)) (tVar 1)) (gName 4))
  (tSeq (tAsg (tOp rDivI (tOp (rIx K) (tVar 0) (tC (.int 1))) (tVar 1)) (gSub (tVar 0) (tC (.int 1)) rSetL))
  (tRet (tVar 4)))))
theorem W__law_next (K : PySem.W.Frag) (ds : List PyData) (Φ : Rv → Prop) (s : Addr) (p : P__law_next ds Φ) : Wz K (t__law_next K) true s ds 3 Φ := by
  obtain ⟨m, rfl, m0, m1, q⟩ := p
  show Ws K _ [.own s .strm, .dat (.int m), .un, .un, .un] _ _ _ _
  unfold t__law_next
  refine ws_open 0 rfl fun l ns c k hk => ?_
  have fin : ∀ (c k : Int) (a b d : Sl), Ws K (tSeq (tAsg (tOp rModI (tCB rIntQ (tCons (tOp (rIx K) (tVar 0) (tC (.int 1))) tNil)) (tVar 1)) (gName 4)) (tSeq (tAsg (tOp rDivI (tOp (rIx K) (tVar 0) (tC (.int 1))) (tVar 1)) (gSub (tVar 0) (tC (.int 1)) rSetL)) (tRet (tVar 4))))
      [.own s (.strmX l ns c k), .dat (.int m), a, b, d] (fun Γ' => Kp true s Γ' ∧ Φ (.dat .none)) (fun Γ' r => Kp true s Γ' ∧ Φ r) (fun _ => False) (fun _ => False) := fun c k a b d => by
    refine ws_seq (ws_set ?_)
    walk_at "z"
    refine ⟨m0, ?_⟩
    refine ws_seq (ws_sx1 rfl ?_)
    walk_at "z"
    refine ⟨⟨m0, m1⟩, ?_⟩
    walk_at "z"
    refine ws_close 0 rfl (ws_ret ?_)
    walk_at "z"
    exact ⟨fun _ => rfl, q _ (Int.emod_nonneg _ (by omega)) (Int.emod_lt_of_pos _ m0)⟩
  have put : ∀ (v : Int) (d : Sl), Ws K (tSeq (tAsg (tVar 3) (gSub (tVar 0) (tC (.int 1)) rSetL)) (tAsg (tOp rAddI (tVar 2) (tC (.int 1))) (gSub (tVar 0) (tC (.int 2)) rSetL)))
      [.own s (.strmX l ns c k), .dat (.int m), .dat (.int k), .dat (.int v), d] (fun Γ' => ∃ (c k : Int) (a b d : Sl), Γ' = [.own s (.strmX l ns c k), .dat (.int m), a, b, d]) (fun Γ' r => Kp true s Γ' ∧ Φ r) (fun _ => False) (fun _ => False) := fun v d => by
    refine ws_seq (ws_sx1 rfl ?_)
    walk_at "z"
    refine ws_sx2 rfl ?_
    walk_at "z"
    refine ⟨by omega, ?_⟩
    exact ⟨v, k + 1, _, _, _, rfl⟩
  refine ws_seq (ws_ifB (decide (c = 0)) ?_ (fun h => ?_) fun h => ws_next (fin c k _ _ _))
  · walk_at "z"
    exact ⟨rfl, rfl, _, rfl, eqv_int⟩
  · refine ws_imp (N' := fun Γ' => ∃ (c k : Int) (a b d : Sl), Γ' = [.own s (.strmX l ns c k), .dat (.int m), a, b, d]) ?_ fun Γ' ⟨c, k, a, b, d, e⟩ => by subst e; exact fin c k a b d
    refine ws_seq (ws_set ?_)
    walk_at "z"
    refine ws_seq (ws_set ?_)
    walk_at "z"
    refine ws_seq (ws_imp (N' := fun Γ' => ∃ v : Int, Γ' = [.own s (.strmX l ns c k), .dat (.int m), .dat (.int k), .dat (.int v), .un]) ?_ ?_)
    · refine ws_ifB (decide (k < (ns.length : Int))) ?_ (fun h => ws_set ?_) fun h => ws_next ⟨_, rfl⟩
      · walk_at "z"
        simp
      · have h := of_decide_eq_true h
        obtain ⟨j, rfl⟩ : ∃ j : Nat, k = j := ⟨k.toNat, by omega⟩
        walk_at "z"
        refine ⟨_, _, _, .inl rfl, rfl, atI_nat (at_ints (by omega)), ?_⟩
        walk_at "z"
        exact ⟨⟨by decide, by decide, by decide⟩, _, _, rfl, rfl, by decide, _, rfl⟩
    · rintro Γ' ⟨v, rfl⟩
      refine ws_seq (ws_imp (N' := fun Γ' => ∃ v : Int, Γ' = [.own s (.strmX l ns c k), .dat (.int m), .dat (.int k), .dat (.int v), .un]) ?_ ?_)
      · have sm : ∀ i j : Int, -(2 ^ 64) < j ∧ j < 2 ^ 64 → CMul i j := fun i j h => .inr h
        refine ws_ifB (decide (v < 10 ^ Int.toNat 18)) ?_ (fun h => ws_seq (ws_set ?_)) fun h => ws_next ⟨_, rfl⟩
        · walk_at "z"
          refine ⟨⟨by decide, by decide, by decide⟩, ?_⟩
          walk_at "z"
          rfl
        · walk_at "z"
          refine ⟨sm _ _ (by decide), ?_⟩
          walk_at "z"
          refine ⟨sm _ _ (by decide), ?_⟩
          walk_at "z"
          refine ⟨by decide, ?_⟩
          refine ws_set ?_
          walk_at "z"
          refine ⟨sm _ _ (by decide), ?_⟩
          walk_at "z"
          refine ⟨by decide, ?_⟩
          walk_at "z"
          refine ⟨sm _ _ (by decide), ?_⟩
          walk_at "z"
          exact ⟨_, rfl⟩
      · rintro Γ' ⟨v, rfl⟩
        exact put v _
abbrev P__law_pick (ds : List PyData) (Φ : Rv → Prop) : Prop := ∃ rows : List PyData, ds = [.list rows] ∧ rows ≠ [] ∧ rows.length < 1073741824 ∧ ∀ d ∈ rows, Φ (.dat d)
theorem len__law_pick (ds : List PyData) (Φ : Rv → Prop) (h : P__law_pick ds Φ) : ds.length = 1 := by obtain ⟨_, rfl, _⟩ := h; rfl
def t__law_pick (K : PySem.W.Frag) : TS :=
  (tRet (tOp (rIx K) (tVar 1) (tCall (spZ K true P__law_next) [] E0 (tCons (tVar 0) (tCons (tCB (rLenQ K) (tCons (tVar 1) tNil)) tNil)))))
theorem W__law_pick (K : PySem.W.Frag) (ds : List PyData) (Φ : Rv → Prop) (s : Addr) (p : P__law_pick ds Φ) : Wz K (t__law_pick K) true s ds 0 Φ := by
  obtain ⟨rows, rfl, h0, h1, q⟩ := p
  show Ws K _ [.own s .strm, .dat (.list rows)] _ _ _ _
  have h2 := List.length_pos_iff.mpr h0
  unfold t__law_pick
  refine ws_ret ?_
  walk_at "z"
  refine ⟨by omega, by omega, fun d d0 d1 => ?_⟩
  obtain ⟨j, rfl⟩ : ∃ j : Nat, d = j := ⟨d.toNat, by omega⟩
  have hj : rows[j]? = some (rows[j]'(by omega)) := List.getElem?_eq_getElem _
  exact ⟨_, rfl, _, _, _, .inl rfl, rfl, atI_nat hj, fun _ => rfl, q _ (List.mem_of_getElem? hj)⟩
theorem perm_erase {α : Type} : ∀ {l : List α} {j : Nat} (h : j < l.length), (l[j] :: l.eraseIdx j).Perm l
  | x :: l, 0, _ => .refl _
  | x :: l, j + 1, h => (List.Perm.swap x _ _).trans ((perm_erase (by simpa using h)).cons x)
abbrev P__law_shuffled (ds : List PyData) (Φ : Rv → Prop) : Prop := ∃ rows : List PyData, ds = [.list rows] ∧ rows.length ≤ 1000000 ∧ ∀ out : List PyData, out.Perm rows → Φ (.dat (.list out))
theorem len__law_shuffled (ds : List PyData) (Φ : Rv → Prop) (h : P__law_shuffled ds Φ) : ds.length = 1 := by obtain ⟨_, rfl, _⟩ := h; rfl
def t__law_shuffled (K : PySem.W.Frag) : TS :=
  (tSeq (tPar 2 3 (tCons (tCB (rListQ K) (tCons (tVar 1) tNil)) (tCons (tLst tNil) tNil)))
  (tSeq (tFor (iRng1 (tCons (tCB (rLenQ K) (tCons (tVar 1) tNil)) tNil)) (gName 4) (tDrop (tBM K "list" rAppend (tVar 3) (tCons (tBM K "list" rPopAt (tVar 2) (tCons (tCall (spZ K true P__law_next) [] E0 (tCons (tVar 0) (tCons (tCB (rLenQ K) (tCons (tVar 2) tNil)) tNil))) tNil)) tNil))))
  (tRet (tVar 3))))
theorem W__law_shuffled (K : PySem.W.Frag) (ds : List PyData) (Φ : Rv → Prop) (s : Addr) (p : P__law_shuffled ds Φ) : Wz K (t__law_shuffled K) true s ds 3 Φ := by
  obtain ⟨rows, rfl, h1, q⟩ := p
  show Ws K _ [.own s .strm, .dat (.list rows), .un, .un, .un] _ _ _ _
  unfold t__law_shuffled
  refine ws_seq (ws_parM ?_)
  walk_at "z"
  refine ⟨_, .inl rfl, fun p1 => ?_⟩
  walk_at "z"
  refine fun p2 => wam_nil ⟨_, _, rfl, ?_⟩
  refine ws_seq (ws_for ?_)
  walk_at "z"
  refine ⟨by omega, by omega, ?_⟩
  refine ⟨fun k Γ' => ∃ (left found : List PyData) (a : Sl), Γ' = [.own s .strm, .dat (.list rows), .own p1 (.lst left), .own p2 (.lst found), a] ∧ left.length + k = rows.length ∧ found.length = k ∧ (left ++ found).Perm rows,
    ⟨rows, [], _, rfl, rfl, rfl, by simp⟩, fun k d Γ' hk hI => ?_, fun Γ' hI => ?_⟩
  · obtain ⟨hk, rfl⟩ := rangeD_get hk
    obtain ⟨left, found, a, rfl, l1, l2, pm⟩ := hI
    have hk : k < rows.length := by omega
    have hz : sizeLine = 16777216 := sizeLine_eq
    walk_at "z"
    refine ws_app_pop rfl rfl (by decide) (by omega) (by omega) ?_
    walk_at "z"
    refine ⟨by omega, by omega, fun d d0 d1 => ⟨_, rfl, ?_⟩⟩
    obtain ⟨j, rfl⟩ : ∃ j : Nat, d = j := ⟨d.toNat, by omega⟩
    have hj : left[j]? = some (left[j]'(by omega)) := List.getElem?_eq_getElem _
    refine ⟨j, _, rfl, hj, left.eraseIdx j, found ++ [left[j]'(by omega)], _, rfl, ?_, by simp [l2], ?_⟩
    · rw [List.length_eraseIdx_of_lt (by omega)]; omega
    · refine List.Perm.trans ?_ pm
      rw [← List.append_assoc]
      exact (List.perm_append_singleton _ _).trans ((perm_erase (by omega)).append_right found)
  · obtain ⟨left, found, a, rfl, l1, l2, pm⟩ := hI
    rw [rangeD_len] at l1 l2
    have e : left = [] := List.length_eq_zero_iff.mp (by omega)
    subst e
    refine ws_frz 3 rfl (ws_ret ?_)
    walk_at "z"
    exact ⟨fun _ => rfl, q _ pm⟩
/-! ### plain values, and their written form -/
mutual
def okD : PyData → Bool
  | .none => true
  | .bool _ => true
  | .int i => decide (0 ≤ i ∧ i < 10 ^ 12)
  | .str x => x.cps.toList.all fun c => decide (c < 16 ^ 8)
  | .tuple xs => okAll xs
  | .list _ => false
  | .dict _ => false
def okAll : List PyData → Bool
  | [] => true
  | x :: xs => okD x && okAll xs
end
theorem log2_small {n : Nat} (h : n < 10 ^ 12) : n.log2 < 1920 := by
  by_cases z : n = 0
  · subst z; decide
  · have : n.log2 < 40 := (Nat.log2_lt z).mpr (by omega)
    omega
mutual
theorem ok_facts : ∀ d : PyData, okD d = true → d.showable = true ∧ d.hasDict = false ∧ d.leavesShort 13 = true
  | .none, _ => ⟨by simp [PyData.showable], by simp [PyData.hasDict], by simp [PyData.leavesShort]⟩
  | .bool _, _ => ⟨by simp [PyData.showable], by simp [PyData.hasDict], by simp [PyData.leavesShort]⟩
  | .int i, h => by
    have h : 0 ≤ i ∧ i < 10 ^ 12 := by simpa [okD] using h
    refine ⟨?_, by simp [PyData.hasDict], ?_⟩
    · simp only [PyData.showable, decide_eq_true_eq]
      exact log2_small (by omega)
    · simp only [PyData.leavesShort, decide_eq_true_eq]
      have := PyProof.Rows.toString_length_le h.1 (k := 13) (by decide) (by omega)
      exact this
  | .str x, h => ⟨by simp [PyData.showable], by simp [PyData.hasDict], by simpa [okD, PyData.leavesShort] using h⟩
  | .tuple xs, h => by
    have q := oks_facts xs (by simpa [okD] using h)
    exact ⟨by simpa [PyData.showable] using q.1, by simpa [PyData.hasDict] using q.2.1, by simpa [PyData.leavesShort] using q.2.2⟩
  | .list _, h => by simp [okD] at h
  | .dict _, h => by simp [okD] at h
theorem oks_facts : ∀ xs : List PyData, okAll xs = true → PyData.showableAll xs = true ∧ PyData.hasDictAll xs = false ∧ PyData.leavesShortAll 13 xs = true
  | [], _ => ⟨by simp [PyData.showableAll], by simp [PyData.hasDictAll], by simp [PyData.leavesShortAll]⟩
  | x :: xs, h => by
    have h : okD x = true ∧ okAll xs = true := by simpa [okAll] using h
    have q1 := ok_facts x h.1
    have q2 := oks_facts xs h.2
    exact ⟨by simp [PyData.showableAll, q1.1, q2.1], by simp [PyData.hasDictAll, q1.2.1, q2.2.1], by simp [PyData.leavesShortAll, q1.2.2, q2.2.2]⟩
end
/-- small plain data -/
structure Pl (d : PyData) : Prop where
  ok : okD d = true
  dep : d.depth ≤ 60
  blk : d.bulk ≤ 1000000
theorem Pl.shown {d : PyData} (h : Pl d) : d.shown.length ≤ sizeLine := by
  have h1 := PyData.shown_le_bulk 13 (by decide) d (ok_facts d h.ok).2.2
  have h2 := h.blk
  rw [sizeLine_eq]
  omega
theorem okAll_mem : ∀ {xs : List PyData}, okAll xs = true → ∀ x ∈ xs, okD x = true
  | x :: xs, h, y, hy => by
    have h : okD x = true ∧ okAll xs = true := by simpa [okAll] using h
    rcases List.mem_cons.mp hy with z | z
    · rw [z]; exact h.1
    · exact okAll_mem h.2 y z
theorem okAll_of : ∀ {xs : List PyData}, (∀ x ∈ xs, okD x = true) → okAll xs = true
  | [], _ => rfl
  | x :: xs, h => by simp [okAll, h x List.mem_cons_self, okAll_of fun y hy => h y (List.mem_cons_of_mem _ hy)]
theorem bulkAll_append : ∀ (xs ys : List PyData), PyData.bulkAll (xs ++ ys) = PyData.bulkAll xs + PyData.bulkAll ys
  | [], ys => by simp [PyData.bulkAll]
  | x :: xs, ys => by simp only [List.cons_append, PyData.bulkAll, bulkAll_append xs ys]; omega
theorem bulkAll_len : ∀ (xs : List PyData), xs.length ≤ PyData.bulkAll xs
  | [] => Nat.le_refl _
  | x :: xs => by
    have := bulkAll_len xs
    simp only [List.length_cons, PyData.bulkAll]
    omega
abbrev P__law_plain (ds : List PyData) (Φ : Rv → Prop) : Prop := ∃ d : PyData, ds = [d] ∧ okD d = true ∧ d.bulk ≤ 1000000 ∧ Φ (.dat (.bool true))
theorem len__law_plain (ds : List PyData) (Φ : Rv → Prop) (h : P__law_plain ds Φ) : ds.length = 1 := by obtain ⟨_, rfl, _⟩ := h; rfl
def t__law_plain (K : PySem.W.Frag) : TS :=
  (tSeq (tAsg (tLst (tCons (tVar 0) tNil)) (gName 1))
  (tSeq (tFor (iRng1 (tCons (tOp rPowI (tC (.int 10)) (tC (.int 9))) tNil)) (gName 2) (tSeq (tIfS (tTest (tOp (rEqD K) (tCB (rLenQ K) (tCons (tVar 1) tNil)) (tC (.int 0)))) (tRet (tC (.bl true))) tNext)
  (tSeq (tAsg (tBM0 K "list" rPop (tVar 1)) (gName 3))
  (tIfS (tB (tCB (rIsi K) (tCons (tVar 3) (tCons (tC (.ty "tuple")) tNil)))) (tDrop (tBM K "list" rExtend (tVar 1) (tCons (tCB (rListQ K) (tCons (tVar 3) tNil)) tNil))) (tIfS (tAnd (tTest (tOp rNotN (tVar 3) (tC .non))) (tAnd (tNot (tB (tCB (rIsi K) (tCons (tVar 3) (tCons (tC (.ty "str")) tNil))))) (tNot (tB (tCB (rIsi K) (tCons (tVar 3) (tCons (tC (.ty "int")) tNil))))))) (tRet (tC (.bl false))) tNext)))))
  (tRet (tC (.bl false)))))
theorem W__law_plain (K : PySem.W.Frag) (ds : List PyData) (Φ : Rv → Prop) (s : Addr) (p : P__law_plain ds Φ) : Wz K (t__law_plain K) false s ds 3 Φ := by
  obtain ⟨d, rfl, h1, h2, q⟩ := p
  show Ws K _ [.dat d, .un, .un, .un] _ _ _ _
  unfold t__law_plain
  refine ws_seq (ws_setM ?_)
  walk_at "z"
  refine fun p1 => ws_seq (ws_for ?_)
  walk_at "z"
  refine ⟨⟨by decide, by decide, by decide⟩, _, rfl, by decide, by decide, ?_⟩
  have hN : (1000000000 : Nat) = ((10 : Int) ^ Int.toNat 9).toNat := by decide
  rw [← hN]
  clear hN
  refine ⟨fun t Γ' => ∃ (left : List PyData) (a b : Sl), Γ' = [.dat d, .own p1 (.lst left), a, b] ∧ okAll left = true ∧ PyData.bulkAll left + t ≤ d.bulk + 1, ⟨[d], _, _, rfl, by simp [okAll, h1], by simp [PyData.bulkAll]⟩, fun t x Γ' ht hI => ?_, fun Γ' hI => ?_⟩
  · obtain ⟨left, a, b, rfl, k1, k2⟩ := hI
    have hl := bulkAll_len left
    have hz : sizeLine = 16777216 := sizeLine_eq
    walk_at "z"
    refine ws_seq (ws_ifB (decide ((left.length : Int) = 0)) ?_ (fun h => ?_) fun h => ws_next (ws_seq (ws_pop rfl ?_)))
    · walk_at "z"
      exact ⟨rfl, rfl, _, rfl, eqv_int⟩
    · refine ws_ret ?_
      walk_at "z"
      exact ⟨kpF, q⟩
    · have h := of_decide_eq_false h
      rcases List.eq_nil_or_concat left with rfl | ⟨ini, y, rfl⟩
      · exact absurd rfl h
      · rw [List.concat_eq_append] at k1 k2 hl ⊢
        have ky : okD y = true := okAll_mem k1 y (by simp)
        have ki : okAll ini = true := okAll_of fun z hz => okAll_mem k1 z (by simp [hz])
        rw [bulkAll_append] at k2
        simp only [PyData.bulkAll] at k2
        refine ⟨y, by simp, ?_⟩
        rw [List.dropLast_concat]
        refine ws_ifB (isTupD y) ?_ (fun h => ?_) fun h => ?_
        · walk_at "z"
          rfl
        · cases y with
          | tuple xs =>
            simp only [PyData.bulk] at k2
            have hx := bulkAll_len xs
            have hi := bulkAll_len ini
            refine ws_ext (p := p1) rfl ?_
            walk_at "z"
            refine ⟨_, .inr rfl, _, rfl, _, rfl, by omega, ini ++ xs, _, _, rfl, okAll_of fun z hz => ?_, by rw [bulkAll_append]; omega⟩
            rcases List.mem_append.mp hz with hz | hz
            · exact okAll_mem ki z hz
            · exact okAll_mem (by simpa [okD] using ky) z hz
          | _ => cases h
        · refine ws_ifF ?_ (ws_next ⟨ini, _, _, rfl, ki, by omega⟩)
          walk_at "z"
          cases y with
          | tuple _ => cases h
          | list _ => simp [okD] at ky
          | dict _ => simp [okD] at ky
          | none => exact ⟨fun h => (by cases h), fun _ => rfl⟩
          | bool _ =>
            refine ⟨fun _ => ?_, fun _ => rfl⟩
            walk_at "z"
            refine ⟨fun _ => ?_, fun _ => rfl⟩
            walk_at "z"
            rfl
          | int _ =>
            refine ⟨fun _ => ?_, fun _ => rfl⟩
            walk_at "z"
            refine ⟨fun _ => ?_, fun _ => rfl⟩
            walk_at "z"
            rfl
          | str _ =>
            refine ⟨fun _ => ?_, fun _ => rfl⟩
            walk_at "z"
            exact ⟨fun h => (by cases h), fun _ => rfl⟩
  · obtain ⟨left, a, b, rfl, k1, k2⟩ := hI
    rw [rangeD_len] at k2
    omega
abbrev P__law_same (ds : List PyData) (Φ : Rv → Prop) : Prop := ∃ d : PyData, ds = [d, d] ∧ Pl d ∧ Φ (.dat (.bool true))
theorem len__law_same (ds : List PyData) (Φ : Rv → Prop) (h : P__law_same ds Φ) : ds.length = 2 := by obtain ⟨_, rfl, _⟩ := h; rfl
def t__law_same (K : PySem.W.Frag) : TS :=
  (tRet (tAndV (tCall (spZ K false P__law_plain) [] E0 (tCons (tVar 0) tNil)) (tOp rEq (tCB (rReprD K) (tCons (tVar 0) tNil)) (tCB (rReprD K) (tCons (tVar 1) tNil)))))
theorem W__law_same (K : PySem.W.Frag) (ds : List PyData) (Φ : Rv → Prop) (s : Addr) (p : P__law_same ds Φ) : Wz K (t__law_same K) false s ds 0 Φ := by
  obtain ⟨d, rfl, h, q⟩ := p
  show Ws K _ [.dat d, .dat d] _ _ _ _
  have f := ok_facts d h.ok
  unfold t__law_same
  refine ws_ret ?_
  walk_at "z"
  refine ⟨h.ok, h.blk, _, rfl, _, rfl, fun _ => ?_, fun z => (by cases z)⟩
  refine wd_eqS (wd_repr ?_)
  walk_at "z"
  refine ⟨f.1, f.2.1, h.dep, h.shown, wd_repr ?_⟩
  walk_at "z"
  refine ⟨f.1, f.2.1, h.dep, h.shown, ?_⟩
  walk_at "z"
  rw [decide_eq_true rfl]
  exact ⟨kpF, q⟩
abbrev P__law_broken (ds : List PyData) (Φ : Rv → Prop) : Prop := ∃ (cs : List Int) (dms : List Dm), ds = [.tuple (intsD cs), .tuple (dmsD dms)] ∧ dms.length ≤ 4000 ∧ (∀ d ∈ dms, d.1 < cs.length ∧ d.2.1 < cs.length) ∧ Φ (.dat (.tuple (natsD (brk cs dms))))
theorem len__law_broken (ds : List PyData) (Φ : Rv → Prop) (h : P__law_broken ds Φ) : ds.length = 2 := by obtain ⟨_, _, rfl, _⟩ := h; rfl
theorem rangeD_zip {α : Type} {l : List α} : rangeD 0 l.length = l.zipIdx.map fun x => .int (x.2 : Nat) := by
  apply List.ext_getElem?
  intro i
  rw [List.getElem?_map, List.getElem?_zipIdx]
  by_cases h : i < l.length
  · rw [rangeD_at h, List.getElem?_eq_getElem h]; simp
  · rw [List.getElem?_eq_none (by rw [rangeD_len]; omega), List.getElem?_eq_none (by omega)]; rfl
theorem dms_at {dms : List Dm} {k : Nat} {d : Dm} (h : dms[k]? = some d) : (dmsD dms)[k]? = some (dmD d) := by
  rw [List.getElem?_map, h]; rfl
def t__law_broken (K : PySem.W.Frag) : TS :=
  (tRet (tCB (rTupleQ K) (tCons (tLc (iRng1 (tCons (tCB (rLenQ K) (tCons (tVar 1) tNil)) tNil)) (gName 2) (tTest (tOp rLtI (tOp (rIx K) (tVar 0) (tOp (rIx K) (tOp (rIx K) (tVar 1) (tVar 2)) (tC (.int 0)))) (tOp rAddI (tOp (rIx K) (tVar 0) (tOp (rIx K) (tOp (rIx K) (tVar 1) (tVar 2)) (tC (.int 1)))) (tOp (rIx K) (tOp (rIx K) (tVar 1) (tVar 2)) (tC (.int 2)))))) (tVar 2) [2]) tNil)))
theorem W__law_broken (K : PySem.W.Frag) (ds : List PyData) (Φ : Rv → Prop) (s : Addr) (p : P__law_broken ds Φ) : Wz K (t__law_broken K) false s ds 1 Φ := by
  obtain ⟨cs, dms, rfl, hl, hp, q⟩ := p
  show Ws K _ [.dat (.tuple (intsD cs)), .dat (.tuple (dmsD dms)), .un] _ _ _ _
  unfold t__law_broken
  refine ws_ret ?_
  walk_at "z"
  refine wd_f (wf_fmL (Dm × Nat) (by walk_at "v") ?_)
  walk_at "z"
  refine ⟨by simp only [List.length_map]; omega, by simp only [List.length_map]; omega, ?_⟩
  refine ⟨dms.zipIdx, fun x => .int (x.2 : Nat), fun x => !metB cs x.1, fun x => .int (x.2 : Nat), ?_, by rw [List.length_zipIdx]; exact sl24 (by omega), fun a ha => ?_, ?_⟩
  · rw [← rangeD_zip]; simp
  · have hd := mem_zipIdx' ha
    obtain ⟨h1, h2⟩ := hp a.1 (List.mem_of_getElem? hd)
    walk_at "z"
    refine ⟨_, _, _, .inr rfl, rfl, atI_nat (dms_at hd), ?_⟩
    walk_at "z"
    refine ⟨_, _, _, .inr rfl, rfl, atI_nat (at_ints h1), ?_⟩
    walk_at "z"
    refine ⟨_, _, _, .inr rfl, rfl, atI_nat (dms_at hd), ?_⟩
    walk_at "z"
    refine ⟨_, _, _, .inr rfl, rfl, atI_nat (at_ints h2), ?_⟩
    walk_at "z"
    refine ⟨_, _, _, .inr rfl, rfl, atI_nat (dms_at hd), ?_⟩
    walk_at "z"
    refine ⟨by show decide (_ < _) = !decide (_ ≤ _); rw [← decide_not]; exact decide_eq_decide.mpr Int.not_le.symm, fun _ => ?_⟩
    walk_at "z"
    rfl
  · refine ⟨_, rfl, _, .inl rfl, kpF, ?_⟩
    have e : ((dms.zipIdx.filter fun x => !metB cs x.1).map fun x => PyData.int (x.2 : Nat)) = natsD (brk cs dms) := by
      unfold brk natsD; rw [List.map_map]; rfl
    rw [e]; exact q
/-! ### what leads to a place, what leads away -/
abbrev edD (d : Dm) : PyData := .tuple [.int (d.2.1 : Nat), .int d.2.2]
abbrev rowT (dms : List Dm) (x : Nat) : List PyData := (dms.filter fun d => d.1 == x).map edD
abbrev rowsT (n : Nat) (dms : List Dm) : List (List PyData) := (List.range n).map (rowT dms)
abbrev toD (n : Nat) (dms : List Dm) : List PyData := (rowsT n dms).map .list
abbrev P__law_behind (ds : List PyData) (Φ : Rv → Prop) : Prop := ∃ (n : Nat) (dms : List Dm), ds = [.list (dmsD dms), .int n] ∧ n ≤ 1000 ∧ dms.length ≤ 4000 ∧ (∀ d ∈ dms, d.1 < n ∧ d.2.1 < n) ∧ Φ (.dat (.tuple [.list (toD n dms), .list (toD n (turnD dms))]))
theorem len__law_behind (ds : List PyData) (Φ : Rv → Prop) (h : P__law_behind ds Φ) : ds.length = 2 := by obtain ⟨_, _, rfl, _⟩ := h; rfl
theorem rowsT_nil {n : Nat} : rowsT n [] = List.replicate n [] := by
  apply List.ext_getElem?
  intro i
  rw [List.getElem?_map, List.getElem?_replicate]
  by_cases h : i < n
  · simp [h, rowT]
  · rw [if_neg h, List.getElem?_eq_none (by simp; omega)]; rfl
theorem rowsT_at {n k : Nat} {dms : List Dm} (h : k < n) : (rowsT n dms)[k]? = some (rowT dms k) := by simp [h]
theorem rowsT_add {n : Nat} {dms : List Dm} {d : Dm} (h : d.1 < n) : (rowsT n dms).set d.1 (rowT dms d.1 ++ [edD d]) = rowsT n (dms ++ [d]) := by
  apply List.ext_getElem?
  intro j
  rw [List.getElem?_set]
  by_cases e : d.1 = j
  · subst e
    rw [if_pos rfl, rowsT_at h]
    simp [h, rowT]
  · rw [if_neg e]
    by_cases hj : j < n
    · rw [rowsT_at hj, rowsT_at hj]
      simp [rowT, e]
    · rw [List.getElem?_eq_none (by simp; omega), List.getElem?_eq_none (by simp; omega)]
theorem rowT_len {dms : List Dm} {x : Nat} : (rowT dms x).length ≤ dms.length := by
  rw [List.length_map]; exact List.length_filter_le _ _
def t__law_behind (K : PySem.W.Frag) : TS :=
  (tSeq (tPar 2 3 (tCons (tLc (iRng1 (tCons (tVar 1) tNil)) (gName 7) tYes (tLst tNil) [7]) (tCons (tLc (iRng1 (tCons (tVar 1) tNil)) (gName 7) tYes (tLst tNil) [7]) tNil)))
  (tSeq (tFor (iList K (tVar 0)) (gTup K 3 (gCons (gName 4) (gCons (gName 5) (gCons (gName 6) gNil)))) (tSeq (tDrop (tBM K "list" rAppend (tOp (rIx K) (tVar 2) (tVar 4)) (tCons (tTup (tCons (tVar 5) (tCons (tVar 6) tNil))) tNil)))
  (tDrop (tBM K "list" rAppend (tOp (rIx K) (tVar 3) (tVar 5)) (tCons (tTup (tCons (tVar 4) (tCons (tVar 6) tNil))) tNil)))))
  (tRet (tTup (tCons (tVar 2) (tCons (tVar 3) tNil))))))
theorem W__law_behind (K : PySem.W.Frag) (ds : List PyData) (Φ : Rv → Prop) (s : Addr) (p : P__law_behind ds Φ) : Wz K (t__law_behind K) false s ds 6 Φ := by
  obtain ⟨n, dms, rfl, hn, hl, hp, q⟩ := p
  show Ws K _ [.dat (.list (dmsD dms)), .dat (.int n), .un, .un, .un, .un, .un, .un] _ _ _ _
  unfold t__law_behind
  refine ws_seq (ws_parM (wam_cons (wm_f (wf_lcE (by walk_at "v") ?_))))
  walk_at "z"
  refine ⟨by omega, by omega, by rw [rangeD_len]; exact sl24 (by omega), fun k d _ => ?_, fun q1 hq1 p1 => ?_⟩
  · walk_at "z"
    trivial
  refine wam_cons (wm_f (wf_lcE (by walk_at "v") ?_))
  walk_at "z"
  refine ⟨by omega, by omega, by rw [rangeD_len]; exact sl24 (by omega), fun k d _ => ?_, fun q2 hq2 p2 => wam_nil ⟨_, _, rfl, ?_⟩⟩
  · walk_at "z"
    trivial
  rw [rangeD_len, show ((n : Int).toNat) = n from Int.toNat_natCast n, ← rowsT_nil]
  refine ws_seq (ws_for ?_)
  walk_at "z"
  refine ⟨fun k Γ' => ∃ a b c : Sl, Γ' = [.dat (.list (dmsD dms)), .dat (.int n), .own p1 (.ll q1 (rowsT n (dms.take k))), .own p2 (.ll q2 (rowsT n (turnD (dms.take k)))), a, b, c, .un], ⟨_, _, _, rfl⟩, fun k d Γ' hk hI => ?_, fun Γ' hI => ?_⟩
  · obtain ⟨a, b, c, rfl⟩ := hI
    rw [List.getElem?_map, Option.map_eq_some_iff] at hk
    obtain ⟨d, hd, rfl⟩ := hk
    obtain ⟨h1, h2⟩ := hp d (List.mem_of_getElem? hd)
    have hk : k < dms.length := (List.getElem?_eq_some_iff.mp hd).1
    have hz : sizeLine = 16777216 := sizeLine_eq
    walk_at "z"
    refine ws_seq (ws_appRow (p := p1) rfl ?_)
    walk_at "z"
    have r1 := rowT_len (dms := dms.take k) (x := d.1)
    have r2 : (rowT (turnD (dms.take k)) d.2.1).length ≤ k := Nat.le_trans rowT_len (by simp [turnD]; omega)
    rw [List.length_take] at r1
    refine ⟨_, _, _, rfl, ixN_nat (by simpa using h1), rowsT_at h1, by omega, ?_⟩
    walk_at "z"
    refine ws_appRow (p := p2) rfl ?_
    walk_at "z"
    refine ⟨_, _, _, rfl, ixN_nat (by simpa using h2), rowsT_at h2, by omega, ?_⟩
    walk_at "z"
    refine ⟨.dat (.int (d.1 : Nat)), .dat (.int (d.2.1 : Nat)), .dat (.int d.2.2), ?_⟩
    rw [show rowsT n (dms.take (k + 1)) = rowsT n (dms.take k ++ [d]) by rw [take_succ_get hd], ← rowsT_add h1,
      show rowsT n (turnD (dms.take (k + 1))) = rowsT n (turnD (dms.take k) ++ [(d.2.1, d.1, d.2.2)]) by rw [take_succ_get hd]; simp [turnD], ← rowsT_add (d := (d.2.1, d.1, d.2.2)) h2]
    rfl
  · obtain ⟨a, b, c, rfl⟩ := hI
    rw [List.length_map, List.take_length]
    refine ws_frzL 2 rfl (ws_frzL 3 rfl (ws_ret ?_))
    walk_at "z"
    exact ⟨kpF, q⟩
/-! ### the greatest sums, layer by layer -/
abbrev layD (ls : List (List Nat)) : List PyData := ls.map fun l => .list (natsD l)
def Topo (dms : List Dm) (pl : List Nat) : Prop := ∀ i x, pl[i]? = some x → ∀ d ∈ dms, d.1 = x → d.2.1 ∈ pl.take i
structure Rz (n : Nat) (dms : List Dm) (beg G : Nat → Int) : Prop where
  lo : ∀ x, x < n → beg x ≤ G x
  up : ∀ d ∈ dms, G d.2.1 + d.2.2 ≤ G d.1
  by_ : ∀ x, x < n → G x = beg x ∨ ∃ d ∈ dms, d.1 = x ∧ G x = G d.2.1 + d.2.2
structure Part (n : Nat) (dms : List Dm) (beg f : Nat → Int) (dn : List Nat) : Prop where
  out : ∀ x, x < n → x ∉ dn → f x = beg x
  lo : ∀ x, x ∈ dn → beg x ≤ f x
  up : ∀ d ∈ dms, d.1 ∈ dn → d.2.1 ∈ dn ∧ f d.2.1 + d.2.2 ≤ f d.1
  by_ : ∀ x, x ∈ dn → f x = beg x ∨ ∃ d ∈ dms, d.1 = x ∧ f x = f d.2.1 + d.2.2
def putI (f : Nat → Int) (k : Nat) (v : Int) : Nat → Int := fun j => if j = k then v else f j
abbrev best (dms : List Dm) (f : Nat → Int) (b : Int) (x : Nat) : Int := maxI (b :: (dms.filter fun d => d.1 == x).map fun d => f d.2.1 + d.2.2)
section
variable {n : Nat} {dms : List Dm} {beg f G : Nat → Int} {dn : List Nat} {x : Nat}
theorem Part.start : Part n dms beg beg [] := ⟨fun _ _ _ => rfl, fun _ h => (by cases h), fun _ _ h => (by cases h), fun _ h => (by cases h)⟩
theorem Part.put (P : Part n dms beg f dn) (hx : x ∉ dn) (hn : x < n) (hy : ∀ d ∈ dms, d.1 = x → d.2.1 ∈ dn) : Part n dms beg (putI f x (best dms f (beg x) x)) (dn ++ [x]) := by
  have old : ∀ z, z ∈ dn → putI f x (best dms f (beg x) x) z = f z := fun z hz => if_neg fun (e : z = x) => hx (e ▸ hz)
  have new : putI f x (best dms f (beg x) x) x = best dms f (beg x) x := if_pos rfl
  refine ⟨fun z hz hd => ?_, fun z hz => ?_, fun d hd hz => ?_, fun z hz => ?_⟩
  · have h1 : z ∉ dn := fun h => hd (List.mem_append_left _ h)
    have h2 : z ≠ x := fun h => hd (by rw [h]; simp)
    exact (if_neg h2).trans (P.out z hz h1)
  · rcases List.mem_append.mp hz with h | h
    · rw [old z h]; exact P.lo z h
    · rw [List.mem_singleton.mp h, new]
      exact maxI_ge List.mem_cons_self
  · rcases List.mem_append.mp hz with h | h
    · obtain ⟨h1, h2⟩ := P.up d hd h
      exact ⟨List.mem_append_left _ h1, by rw [old _ h1, old _ h]; exact h2⟩
    · have e := List.mem_singleton.mp h
      have h1 := hy d hd e
      refine ⟨List.mem_append_left _ h1, ?_⟩
      rw [old _ h1, e, new]
      exact maxI_ge (List.mem_cons_of_mem _ (List.mem_map.mpr ⟨d, List.mem_filter.mpr ⟨hd, by simp [e]⟩, rfl⟩))
  · rcases List.mem_append.mp hz with h | h
    · rw [old z h]
      rcases P.by_ z h with q | ⟨d, hd, q1, q2⟩
      · exact .inl q
      · exact .inr ⟨d, hd, q1, by rw [old _ (P.up d hd (q1 ▸ h)).1]; exact q2⟩
    · rw [List.mem_singleton.mp h, new]
      rcases List.mem_cons.mp (maxI_mem (ns := beg x :: (dms.filter fun d => d.1 == x).map fun d => f d.2.1 + d.2.2) (by simp)) with q | q
      · exact .inl q
      · obtain ⟨d, hd, e⟩ := List.mem_map.mp q
        obtain ⟨h1, h2⟩ := List.mem_filter.mp hd
        have h2 : d.1 = x := by simpa using h2
        exact .inr ⟨d, h1, h2, by rw [old _ (hy d h1 h2)]; exact e.symm⟩
theorem Part.all (P : Part n dms beg f dn) (hp : ∀ d ∈ dms, d.1 < n) (h : dn.Perm (List.range n)) : Rz n dms beg f := by
  have m : ∀ x, x < n → x ∈ dn := fun x hx => h.mem_iff.mpr (List.mem_range.mpr hx)
  exact ⟨fun x hx => P.lo x (m x hx), fun d hd => (P.up d hd (m _ (hp d hd))).2, fun x hx => P.by_ x (m x hx)⟩
theorem listI_set {k : Nat} {v : Int} (h : k < n) : (intsD (listI n f)).set k (.int v) = intsD (listI n (putI f k v)) := by
  apply List.ext_getElem?
  intro j
  rw [List.getElem?_set]
  by_cases e : k = j
  · subst e
    simp [h, putI]
  · rw [if_neg e]
    by_cases hj : j < n
    · rw [ints_at hj, ints_at hj]
      simp [putI, Ne.symm e]
    · rw [List.getElem?_eq_none (by simp; omega), List.getElem?_eq_none (by simp; omega)]
theorem toD_at {k : Nat} (h : k < n) : (toD n dms)[k]? = some (.list (rowT dms k)) := by simp [h]
/-- the place that comes next -/
theorem topo_next {layers : List (List Nat)} {k j : Nat} {l : List Nat} (ht : Topo dms layers.flatten) (hk : layers[k]? = some l) (hj : l[j]? = some x) :
    (∀ d ∈ dms, d.1 = x → d.2.1 ∈ (layers.take k).flatten ++ l.take j) ∧ ((layers.take k).flatten ++ l.take j ++ [x]) = (layers.take k).flatten ++ l.take (j + 1) ∧ (layers.flatten.Nodup → x ∉ (layers.take k).flatten ++ l.take j) ∧ x ∈ layers.flatten ∧ ((layers.take k).flatten ++ l.take j).length < layers.flatten.length := by
  obtain ⟨hkl, hke⟩ := List.getElem?_eq_some_iff.mp hk
  obtain ⟨hjl, hje⟩ := List.getElem?_eq_some_iff.mp hj
  have e1 : layers = layers.take k ++ l :: layers.drop (k + 1) := by
    rw [← hke]; exact (List.take_append_drop k layers).symm.trans (by rw [List.drop_eq_getElem_cons hkl])
  have e2 : l = l.take j ++ x :: l.drop (j + 1) := by
    rw [← hje]; exact (List.take_append_drop j l).symm.trans (by rw [List.drop_eq_getElem_cons hjl])
  have e3 : layers.flatten = ((layers.take k).flatten ++ l.take j) ++ x :: (l.drop (j + 1) ++ (layers.drop (k + 1)).flatten) := by
    conv => lhs; rw [e1]
    rw [List.flatten_append, List.flatten_cons]
    conv => lhs; rw [e2]
    simp
  refine ⟨fun d hd h1 => ?_, by rw [List.append_assoc, take_succ_get hj], fun nd => ?_, by rw [e3]; simp, by rw [e3, List.length_append (bs := x :: _), List.length_cons]; omega⟩
  · have h2 := ht ((layers.take k).flatten ++ l.take j).length x (by rw [e3, List.getElem?_append_right (Nat.le_refl _)]; simp) d hd h1
    rw [e3, List.take_left] at h2
    exact h2
  · rw [e3] at nd
    have := (List.nodup_append.mp nd).2.2
    exact fun h => this x h x (by simp) rfl
end
abbrev P__law_raised (ds : List PyData) (Φ : Rv → Prop) : Prop := ∃ (n : Nat) (dms : List Dm) (layers : List (List Nat)) (beg : Nat → Int), ds = [.list (layD layers), .list (toD n dms), .list (intsD (listI n beg))] ∧ n ≤ 1000 ∧ dms.length ≤ 4000 ∧ (∀ d ∈ dms, d.1 < n ∧ d.2.1 < n) ∧ layers.flatten.Perm (List.range n) ∧ Topo dms layers.flatten ∧ ∀ G : Nat → Int, Rz n dms beg G → Φ (.dat (.list (intsD (listI n G))))
theorem len__law_raised (ds : List PyData) (Φ : Rv → Prop) (h : P__law_raised ds Φ) : ds.length = 3 := by obtain ⟨_, _, _, _, rfl, _⟩ := h; rfl
def t__law_raised (K : PySem.W.Frag) : TS :=
  (tSeq (tAsg (tCB (rListQ K) (tCons (tVar 2) tNil)) (gName 3))
  (tSeq (tFor (iList K (tVar 0)) (gName 4) (tFor (iList K (tVar 4)) (gName 5) (tAsg (tCB (rMax K) (tCons (tOp rCat (tLst (tCons (tOp (rIx K) (tVar 3) (tVar 5)) tNil)) (tLc (iList K (tOp (rIx K) (tVar 1) (tVar 5))) (gTup K 2 (gCons (gName 6) (gCons (gName 7) gNil))) tYes (tOp rAddI (tOp (rIx K) (tVar 3) (tVar 6)) (tVar 7)) [6, 7])) tNil)) (gSub (tVar 3) (tVar 5) rSetL))))
  (tRet (tVar 3))))
theorem W__law_raised (K : PySem.W.Frag) (ds : List PyData) (Φ : Rv → Prop) (s : Addr) (p : P__law_raised ds Φ) : Wz K (t__law_raised K) false s ds 5 Φ := by
  obtain ⟨n, dms, layers, beg, rfl, hn, hl, hp, pm, ht, q⟩ := p
  show Ws K _ [.dat (.list (layD layers)), .dat (.list (toD n dms)), .dat (.list (intsD (listI n beg))), .un, .un, .un, .un, .un] _ _ _ _
  unfold t__law_raised
  refine ws_seq (ws_setM ?_)
  walk_at "z"
  refine ⟨_, .inl rfl, fun p1 => ?_⟩
  refine ws_seq (ws_for ?_)
  walk_at "z"
  have nd : layers.flatten.Nodup := pm.nodup_iff.mpr List.nodup_range
  refine ⟨fun k Γ' => ∃ (f : Nat → Int) (a b : Sl), Γ' = [.dat (.list (layD layers)), .dat (.list (toD n dms)), .dat (.list (intsD (listI n beg))), .own p1 (.lst (intsD (listI n f))), a, b, .un, .un] ∧ Part n dms beg f (layers.take k).flatten, ⟨beg, _, _, rfl, Part.start⟩, fun k d Γ' hk hI => ?_, fun Γ' hI => ?_⟩
  · obtain ⟨f0, a, b, rfl, Q0⟩ := hI
    rw [List.getElem?_map, Option.map_eq_some_iff] at hk
    obtain ⟨l, hk, rfl⟩ := hk
    walk_at "z"
    refine ws_for ?_
    walk_at "z"
    refine ⟨fun j Γ' => ∃ (f : Nat → Int) (b : Sl), Γ' = [.dat (.list (layD layers)), .dat (.list (toD n dms)), .dat (.list (intsD (listI n beg))), .own p1 (.lst (intsD (listI n f))), .dat (.list (natsD l)), b, .un, .un] ∧ Part n dms beg f ((layers.take k).flatten ++ l.take j), ⟨f0, _, rfl, by simpa using Q0⟩, fun j d Γ' hj hI => ?_, fun Γ' hI => ?_⟩
    · obtain ⟨f, b, rfl, Q⟩ := hI
      rw [List.getElem?_map, Option.map_eq_some_iff] at hj
      obtain ⟨x, hj, rfl⟩ := hj
      obtain ⟨t1, t2, t3, t4, _⟩ := topo_next ht hk hj
      have hx : x < n := List.mem_range.mp (pm.mem_iff.mp t4)
      have hz : sizeLine = 16777216 := sizeLine_eq
      have rl := rowT_len (dms := dms) (x := x)
      walk_at "z"
      refine ws_item (p := p1) rfl ?_
      walk_at "z"
      refine ⟨_, _, _, .inl rfl, rfl, atI_nat (ints_at hx), ?_⟩
      walk_at "z"
      rw [Q.out x hx (t3 nd)]
      refine wd_f (wf_mapL Dm (by walk_at "v") ?_)
      walk_at "z"
      refine ⟨_, _, _, .inl rfl, rfl, atI_nat (toD_at hx), ?_⟩
      walk_at "z"
      have fl : (dms.filter fun d => d.1 == x).length ≤ dms.length := List.length_filter_le _ _
      refine ⟨dms.filter fun d => d.1 == x, edD, fun d => .int (f d.2.1 + d.2.2), rfl, sl24 (by omega), fun a ha => ?_, ?_⟩
      · have h2 := (hp a (List.mem_filter.mp ha).1).2
        walk_at "z"
        refine ⟨_, _, _, .inl rfl, rfl, atI_nat (ints_at h2), ?_⟩
        walk_at "z"
        rfl
      · refine ⟨_, rfl, _, _, rfl, rfl, by simp; omega, _, rfl, beg x :: (dms.filter fun d => d.1 == x).map fun d => f d.2.1 + d.2.2, by simp, by simp, ?_⟩
        walk_at "z"
        refine ⟨_, _, rfl, by rw [List.length_map, List.length_map, List.length_range]; exact ixN_nat hx, putI f x (best dms f (beg x) x), .dat (.int (x : Nat)), ?_, by rw [← t2]; exact Q.put (t3 nd) hx t1⟩
        rw [listI_set hx]
        rfl
    · obtain ⟨f, b, rfl, Q⟩ := hI
      refine ⟨f, _, _, rfl, ?_⟩
      rw [List.length_map, List.take_length] at Q
      rw [take_succ_get hk, List.flatten_append]
      simpa using Q
  · obtain ⟨f, a, b, rfl, Q⟩ := hI
    rw [List.length_map, List.take_length] at Q
    refine ws_frz 3 rfl (ws_ret ?_)
    walk_at "z"
    exact ⟨kpF, q f (Q.all (fun d hd => (hp d hd).1) pm)⟩
abbrev P__law_onward (ds : List PyData) (Φ : Rv → Prop) : Prop := ∃ (n : Nat) (dms : List Dm) (layers : List (List Nat)), ds = [.list (layD layers), .list (toD n dms), .int n] ∧ n ≤ 1000 ∧ dms.length ≤ 4000 ∧ (∀ d ∈ dms, d.1 < n ∧ d.2.1 < n) ∧ layers.reverse.flatten.Perm (List.range n) ∧ Topo dms layers.reverse.flatten ∧ ∀ G : Nat → Int, Rz n dms (fun _ => 0) G → Φ (.dat (.list (intsD (listI n G))))
theorem len__law_onward (ds : List PyData) (Φ : Rv → Prop) (h : P__law_onward ds Φ) : ds.length = 3 := by obtain ⟨_, _, _, rfl, _⟩ := h; rfl
def t__law_onward (K : PySem.W.Frag) : TS :=
  (tSeq (tAsg (tOp rRep (tLst (tCons (tC (.int 0)) tNil)) (tVar 2)) (gName 3))
  (tSeq (tFor (iList K (tRevL K (tVar 0))) (gName 4) (tFor (iList K (tVar 4)) (gName 5) (tAsg (tCB (rMax K) (tCons (tOp rCat (tLst (tCons (tC (.int 0)) tNil)) (tLc (iList K (tOp (rIx K) (tVar 1) (tVar 5))) (gTup K 2 (gCons (gName 6) (gCons (gName 7) gNil))) tYes (tOp rAddI (tOp (rIx K) (tVar 3) (tVar 6)) (tVar 7)) [6, 7])) tNil)) (gSub (tVar 3) (tVar 5) rSetL))))
  (tRet (tVar 3))))
theorem W__law_onward (K : PySem.W.Frag) (ds : List PyData) (Φ : Rv → Prop) (s : Addr) (p : P__law_onward ds Φ) : Wz K (t__law_onward K) false s ds 5 Φ := by
  obtain ⟨n, dms, layers0, rfl, hn, hl, hp, pm, ht, q⟩ := p
  show Ws K _ [.dat (.list (layD layers0)), .dat (.list (toD n dms)), .dat (.int n), .un, .un, .un, .un, .un] _ _ _ _
  unfold t__law_onward
  refine ws_seq (ws_setM ?_)
  walk_at "z"
  refine ⟨by omega, by rw [sizeLine_eq]; omega, fun p1 => ?_⟩
  rw [show ((n : Int).toNat) = n from Int.toNat_natCast n, show List.replicate n (PyData.int 0) = intsD (listI n fun _ => 0) by rw [← tabD_ints, tabD_rep]; rfl]
  refine ws_seq (ws_for ?_)
  walk_at "z"
  refine wd_f (wf_rev ?_)
  walk_at "z"
  rw [show (layD layers0).reverse = layD layers0.reverse by simp [layD]]
  generalize hL0 : PyData.list (layD layers0) = L0
  generalize hL : layers0.reverse = layers at pm ht ⊢
  have nd : layers.flatten.Nodup := pm.nodup_iff.mpr List.nodup_range
  refine ⟨fun k Γ' => ∃ (f : Nat → Int) (a b : Sl), Γ' = [.dat L0, .dat (.list (toD n dms)), .dat (.int n), .own p1 (.lst (intsD (listI n f))), a, b, .un, .un] ∧ Part n dms (fun _ => 0) f (layers.take k).flatten, ⟨(fun _ => 0), _, _, rfl, Part.start⟩, fun k d Γ' hk hI => ?_, fun Γ' hI => ?_⟩
  · obtain ⟨f0, a, b, rfl, Q0⟩ := hI
    rw [List.getElem?_map, Option.map_eq_some_iff] at hk
    obtain ⟨l, hk, rfl⟩ := hk
    walk_at "z"
    refine ws_for ?_
    walk_at "z"
    refine ⟨fun j Γ' => ∃ (f : Nat → Int) (b : Sl), Γ' = [.dat L0, .dat (.list (toD n dms)), .dat (.int n), .own p1 (.lst (intsD (listI n f))), .dat (.list (natsD l)), b, .un, .un] ∧ Part n dms (fun _ => 0) f ((layers.take k).flatten ++ l.take j), ⟨f0, _, rfl, by simpa using Q0⟩, fun j d Γ' hj hI => ?_, fun Γ' hI => ?_⟩
    · obtain ⟨f, b, rfl, Q⟩ := hI
      rw [List.getElem?_map, Option.map_eq_some_iff] at hj
      obtain ⟨x, hj, rfl⟩ := hj
      obtain ⟨t1, t2, t3, t4, _⟩ := topo_next ht hk hj
      have hx : x < n := List.mem_range.mp (pm.mem_iff.mp t4)
      have hz : sizeLine = 16777216 := sizeLine_eq
      have rl := rowT_len (dms := dms) (x := x)
      walk_at "z"
      refine ws_item (p := p1) rfl ?_
      walk_at "z"
      refine wd_f (wf_mapL Dm (by walk_at "v") ?_)
      walk_at "z"
      refine ⟨_, _, _, .inl rfl, rfl, atI_nat (toD_at hx), ?_⟩
      walk_at "z"
      have fl : (dms.filter fun d => d.1 == x).length ≤ dms.length := List.length_filter_le _ _
      refine ⟨dms.filter fun d => d.1 == x, edD, fun d => .int (f d.2.1 + d.2.2), rfl, sl24 (by omega), fun a ha => ?_, ?_⟩
      · have h2 := (hp a (List.mem_filter.mp ha).1).2
        walk_at "z"
        refine ⟨_, _, _, .inl rfl, rfl, atI_nat (ints_at h2), ?_⟩
        walk_at "z"
        rfl
      · refine ⟨_, rfl, _, _, rfl, rfl, by simp; omega, _, rfl, 0 :: (dms.filter fun d => d.1 == x).map fun d => f d.2.1 + d.2.2, by simp, by simp, ?_⟩
        walk_at "z"
        refine ⟨_, _, rfl, by rw [List.length_map, List.length_map, List.length_range]; exact ixN_nat hx, putI f x (best dms f 0 x), .dat (.int (x : Nat)), ?_, by rw [← t2]; exact Q.put (t3 nd) hx t1⟩
        rw [listI_set hx]
        rfl
    · obtain ⟨f, b, rfl, Q⟩ := hI
      refine ⟨f, _, _, rfl, ?_⟩
      rw [List.length_map, List.take_length] at Q
      rw [take_succ_get hk, List.flatten_append]
      simpa using Q
  · obtain ⟨f, a, b, rfl, Q⟩ := hI
    rw [List.length_map, List.take_length] at Q
    refine ws_frz 3 rfl (ws_ret ?_)
    walk_at "z"
    exact ⟨kpF, q f (Q.all (fun d hd => (hp d hd).1) pm)⟩
/-! ### layers that stand right -/
def LayAt (layers : List (List Nat)) (k x : Nat) : Prop := ∃ l, layers[k]? = some l ∧ x ∈ l
structure LayOk (n : Nat) (dms : List Dm) (layers : List (List Nat)) : Prop where
  lo : 1 ≤ n
  hi : n ≤ 400
  ll : layers.length ≤ 1000
  len : dms.length ≤ 4000
  good : ∀ d ∈ dms, GoodD n d
  perm : layers.flatten.Perm (List.range n)
  topo : Topo dms layers.flatten
  rperm : layers.reverse.flatten.Perm (List.range n)
  back : Topo (turnD dms) layers.reverse.flatten
theorem topo_of {dms : List Dm} {layers : List (List Nat)} (nd : layers.flatten.Nodup) (h : ∀ d ∈ dms, ∃ a b, a < b ∧ LayAt layers a d.2.1 ∧ LayAt layers b d.1) : Topo dms layers.flatten := by
  intro i x hi d hd hx
  obtain ⟨a, b, hab, ⟨la, ha, hya⟩, ⟨lb, hb, hxb⟩⟩ := h d hd
  have e : layers.flatten = (layers.take b).flatten ++ (layers.drop b).flatten := by rw [← List.flatten_append, List.take_append_drop]
  have hy : d.2.1 ∈ (layers.take b).flatten := List.mem_flatten.mpr ⟨la, List.mem_of_getElem? (i := a) (by rw [List.getElem?_take, if_pos hab]; exact ha), hya⟩
  have hxq : x ∈ (layers.drop b).flatten := List.mem_flatten.mpr ⟨lb, List.mem_of_getElem? (i := 0) (by rw [List.getElem?_drop]; exact hb), hx ▸ hxb⟩
  have dis := (List.nodup_append.mp (e ▸ nd)).2.2
  have hge : (layers.take b).flatten.length ≤ i := by
    apply Nat.le_of_not_lt
    intro hlt
    rw [e, List.getElem?_append_left hlt] at hi
    exact dis x (List.mem_of_getElem? hi) x hxq rfl
  rw [e, List.take_append]
  rw [List.take_of_length_le hge]
  exact List.mem_append_left _ hy
theorem layAt_rev {layers : List (List Nat)} {k x : Nat} (h : LayAt layers k x) : k < layers.length ∧ LayAt layers.reverse (layers.length - 1 - k) x := by
  obtain ⟨l, h1, h2⟩ := h
  have hk : k < layers.length := (List.getElem?_eq_some_iff.mp h1).1
  refine ⟨hk, l, ?_, h2⟩
  rw [List.getElem?_reverse (by omega)]
  rw [show layers.length - 1 - (layers.length - 1 - k) = k by omega]
  exact h1
theorem LayOk.of {n : Nat} {dms : List Dm} {layers : List (List Nat)} (lo : 1 ≤ n) (hi : n ≤ 400) (ll : layers.length ≤ 1000) (len : dms.length ≤ 4000) (good : ∀ d ∈ dms, GoodD n d) (pm : layers.flatten.Perm (List.range n))
    (h : ∀ d ∈ dms, ∃ a b, a < b ∧ LayAt layers a d.2.1 ∧ LayAt layers b d.1) : LayOk n dms layers := by
  have nd : layers.flatten.Nodup := pm.nodup_iff.mpr List.nodup_range
  have pr : layers.reverse.flatten.Perm (List.range n) := ((List.reverse_perm layers).flatten).trans pm
  refine ⟨lo, hi, ll, len, good, pm, topo_of nd h, pr, topo_of (pr.nodup_iff.mpr List.nodup_range) fun d hd => ?_⟩
  obtain ⟨e, he, rfl⟩ := List.mem_map.mp hd
  obtain ⟨a, b, hab, h1, h2⟩ := h e he
  obtain ⟨k1, r1⟩ := layAt_rev h1
  obtain ⟨k2, r2⟩ := layAt_rev h2
  exact ⟨_, _, by omega, r2, r1⟩
theorem LayOk.perm_dms {n : Nat} {dms dms' : List Dm} {layers : List (List Nat)} (h : ∀ d ∈ dms, ∃ a b, a < b ∧ LayAt layers a d.2.1 ∧ LayAt layers b d.1) (pm : dms'.Perm dms) : ∀ d ∈ dms', ∃ a b, a < b ∧ LayAt layers a d.2.1 ∧ LayAt layers b d.1 :=
  fun d hd => h d (pm.mem_iff.mp hd)
theorem perm_inv {α : Type} {f : α → PyData} (g : PyData → α) (hg : ∀ a, g (f a) = a) {l : List α} {out : List PyData} (h : out.Perm (l.map f)) : ∃ l' : List α, out = l'.map f ∧ l'.Perm l := by
  refine ⟨out.map g, ?_, ?_⟩
  · have e : out.map (f ∘ g) = out.map id := List.map_congr_left fun x hx => by
      obtain ⟨a, _, rfl⟩ := List.mem_map.mp (h.mem_iff.mp hx)
      show f (g (f a)) = f a
      rw [hg]
    rw [List.map_id] at e
    rw [List.map_map, e]
  · have := h.map g
    rw [List.map_map, show g ∘ f = id from funext hg, List.map_id] at this
    exact this
def unN : PyData → Nat | .int i => i.toNat | _ => 0
def unDm : PyData → Dm | .tuple [.int x, .int y, .int w] => (x.toNat, y.toNat, w) | _ => (0, 0, 0)
theorem unN_int (k : Nat) : unN (.int (k : Nat)) = k := by simp [unN]
theorem unDm_dmD (d : Dm) : unDm (dmD d) = d := by simp [unDm, dmD]
theorem cut_to {α : Type} {l : List α} {k : Nat} : cutA l none (some (k : Int)) = l.take k := by
  unfold cutA
  rw [HT.sIx_none, HT.sIx_nat]
  simp
  try omega
theorem cut_from {α : Type} {l : List α} {k : Nat} : cutA l (some (k : Int)) none = l.drop k := by
  unfold cutA
  rw [HT.sIx_none, HT.sIx_nat]
  by_cases h : k ≤ l.length
  · rw [Nat.min_eq_left h, List.take_of_length_le (by simp)]
  · rw [Nat.min_eq_right (by omega), List.drop_eq_nil_of_le (Nat.le_refl _), List.drop_eq_nil_of_le (by omega)]
    simp
theorem sum_nat : ∀ zs : List Nat, (zs.map fun (k : Nat) => (k : Int)).sum = (zs.sum : Nat)
  | [] => rfl
  | z :: zs => by
    rw [List.map_cons, List.sum_cons, List.sum_cons, sum_nat zs]
    omega
abbrev P__law_layers (ds : List PyData) (Φ : Rv → Prop) : Prop := ∃ many : Nat, ds = [.int many] ∧ 2 ≤ many ∧ many ≤ 40 ∧ ∀ n dms layers, LayOk n dms layers → Φ (.dat (.tuple [.list (dmsD dms), .list (layD layers)]))
theorem len__law_layers (ds : List PyData) (Φ : Rv → Prop) (h : P__law_layers ds Φ) : ds.length = 1 := by obtain ⟨_, rfl, _⟩ := h; rfl
theorem kpT {s : Addr} {Γ : List Sl} (h : Γ[0]? = some (.own s .strm)) : Kp true s Γ := fun _ => h
def t__law_layers (K : PySem.W.Frag) : TS :=
  (tSeq (tAsg (tLc (iRng1 (tCons (tVar 1) tNil)) (gName 7) tYes (tOp rAddI (tC (.int 2)) (tCall (spZ K true P__law_next) [] E0 (tCons (tVar 0) (tCons (tC (.int 2)) tNil)))) [7]) (gName 2))
  (tSeq (tPar3 3 4 5 (tCons (tCall (spZ K true P__law_shuffled) [] E0 (tCons (tVar 0) (tCons (tLstRg (tRg1 (tCB (rSum K) (tCons (tVar 2) tNil)))) tNil))) (tCons (tLst tNil) (tCons (tLst tNil) tNil))))
  (tSeq (tFor (iList K (tVar 2)) (gName 6) (tSeq (tDrop (tBM K "list" rAppend (tVar 4) (tCons (tSl (rSlL K) (tVar 3) tNoPart (tPart (tVar 6))) tNil)))
  (tAsg (tSl (rSlL K) (tVar 3) (tPart (tVar 6)) tNoPart) (gName 3))))
  (tSeq (tFor (iRng2 (tCons (tC (.int 1)) (tCons (tVar 1) tNil))) (gName 7) (tSeq (tAsg (tCall (spZ K true P__law_pick) [] E0 (tCons (tVar 0) (tCons (tLst (tCons (tC (.int 2)) (tCons (tC (.int 4)) (tCons (tC (.int 1001)) tNil)))) tNil))) (gName 8))
  (tFor (iList K (tOp (rIx K) (tVar 4) (tVar 7))) (gName 9) (tDrop (tBM K "list" rExtend (tVar 5) (tCons (tLc (iList K (tOp (rIx K) (tVar 4) (tOp rSubI (tVar 7) (tC (.int 1))))) (gName 10) tYes (tTup (tCons (tVar 9) (tCons (tVar 10) (tCons (tCall (spZ K true P__law_next) [] E0 (tCons (tVar 0) (tCons (tVar 8) tNil))) tNil)))) [10]) tNil))))))
  (tRet (tTup (tCons (tCall (spZ K true P__law_shuffled) [] E0 (tCons (tVar 0) (tCons (tVar 5) tNil))) (tCons (tVar 4) tNil))))))))
theorem W__law_layers (K : PySem.W.Frag) (ds : List PyData) (Φ : Rv → Prop) (s : Addr) (p : P__law_layers ds Φ) : Wz K (t__law_layers K) true s ds 9 Φ := by
  obtain ⟨many, rfl, h1, h2, q⟩ := p
  have hz : sizeLine = 16777216 := sizeLine_eq
  show Ws K _ [.own s .strm, .dat (.int many), .un, .un, .un, .un, .un, .un, .un, .un, .un] _ _ _ _
  unfold t__law_layers
  refine ws_seq (ws_set (wd_f (wf_lc (by walk_at "v") ?_)))
  walk_at "z"
  refine ⟨by omega, by omega, by rw [rangeD_len]; omega, fun k acc => ∃ zs : List Nat, acc = natsD zs ∧ zs.length = k ∧ ∀ z ∈ zs, 2 ≤ z ∧ z ≤ 3, ⟨[], rfl, rfl, fun z h => (by cases h)⟩, fun k d acc hk hI => ?_, fun acc hI => ?_⟩
  · obtain ⟨zs, rfl, l1, l2⟩ := hI
    walk_at "z"
    refine ⟨by omega, by omega, fun d d0 d1 => ⟨_, rfl, ?_⟩⟩
    walk_at "z"
    obtain ⟨j, rfl⟩ : ∃ j : Nat, d = j := ⟨d.toNat, by omega⟩
    refine ⟨zs ++ [2 + j], by simp, by simp [l1], fun z hz => ?_⟩
    rcases List.mem_append.mp hz with h | h
    · exact l2 z h
    · rw [List.mem_singleton.mp h]; omega
  · obtain ⟨zs, rfl, l1, l2⟩ := hI
    rw [rangeD_len] at l1
    have l1 : zs.length = many := by omega
    have sm : ∀ zs : List Nat, (∀ z ∈ zs, 2 ≤ z ∧ z ≤ 3) → 2 * zs.length ≤ zs.sum ∧ zs.sum ≤ 3 * zs.length := by
      intro zs
      induction zs with
      | nil => intro _; simp
      | cons z zs ih =>
        intro h
        have h1 := h z List.mem_cons_self
        have h2 := ih fun y hy => h y (List.mem_cons_of_mem _ hy)
        rw [List.sum_cons, List.length_cons]
        omega
    have szs := sm zs l2
    refine ⟨_, rfl, ?_⟩
    refine ws_seq (ws_parM3 (wam_cons (wm_d ?_)))
    walk_at "z"
    refine wd_f (wf_lrg (wd_sum ?_))
    walk_at "z"
    refine ⟨zs.map fun (k : Nat) => (k : Int), by simp, zs.sum, by rw [sum_nat], by omega, _, rfl, ?_⟩
    walk_at "z"
    refine ⟨by rw [rangeD_len]; omega, fun out hpm => ⟨_, rfl, ?_⟩⟩
    rw [rangeD_map] at hpm
    obtain ⟨pl, rfl, pp⟩ := perm_inv unN unN_int hpm
    walk_at "z"
    refine fun p1 => ?_
    walk_at "z"
    refine fun p2 => wam_nil ⟨_, _, _, rfl, ?_⟩
    refine ws_seq (ws_for ?_)
    walk_at "z"
    refine ⟨fun k Γ' => ∃ (ls : List (List Nat)) (rest : List Nat) (a : Sl), Γ' = [.own s .strm, .dat (.int many), .dat (.list (natsD zs)), .dat (.list (natsD rest)), .own p1 (.lst (layD ls)), .own p2 (.lst []), a, .un, .un, .un, .un] ∧
      ls.flatten ++ rest = pl ∧ ls.length = k ∧ rest.length = (zs.drop k).sum ∧ ∀ l ∈ ls, 1 ≤ l.length ∧ l.length ≤ 3, ⟨[], pl, _, rfl, rfl, rfl, by rw [pp.length_eq]; simp, fun l h => (by cases h)⟩, fun k d Γ' hk hI => ?_, fun Γ' hI => ?_⟩
    · obtain ⟨ls, rest, a, rfl, e1, e2, e3, e4⟩ := hI
      rw [List.getElem?_map, Option.map_eq_some_iff] at hk
      obtain ⟨z, hk, rfl⟩ := hk
      obtain ⟨z1, z2⟩ := l2 z (List.mem_of_getElem? hk)
      have hkl : k < zs.length := (List.getElem?_eq_some_iff.mp hk).1
      rw [List.drop_eq_getElem_cons hkl, List.sum_cons, (List.getElem?_eq_some_iff.mp hk).2] at e3
      walk_at "z"
      refine ws_seq (ws_app (p := p1) rfl (by simp; omega) (wd_f (wf_slL ?_)))
      walk_at "z"
      refine ws_set (wd_f (wf_slL ?_))
      walk_at "z"
      rw [cut_to, cut_from]
      refine ⟨ls ++ [rest.take z], rest.drop z, .dat (.int (z : Nat)), by simp [layD, natsD, List.map_take, List.map_drop], ?_, by simp [e2], by simp; omega, fun l hl => ?_⟩
      · rw [List.flatten_append, List.append_assoc]
        simp [e1]
      · rcases List.mem_append.mp hl with h | h
        · exact e4 l h
        · rw [List.mem_singleton.mp h, List.length_take]; omega
    · obtain ⟨ls, rest, a, rfl, e1, e2, e3, e4⟩ := hI
      rw [List.length_map] at e2 e3
      rw [List.drop_length, List.sum_nil] at e3
      have hr : rest = [] := List.length_eq_zero_iff.mp e3
      subst hr
      rw [List.append_nil] at e1
      subst e1
      refine ws_frz 4 rfl (ws_seq (ws_for ?_))
      walk_at "z"
      refine ⟨⟨by omega, by omega, by omega, by omega⟩, ?_⟩
      refine ⟨fun k Γ' => ∃ (D : List Dm) (a b c d : Sl), Γ' = [.own s .strm, .dat (.int many), .dat (.list (natsD zs)), .dat (.list []), .dat (.list (layD ls)), .own p2 (.lst (dmsD D)), a, b, c, d, .un] ∧
        D.length ≤ 9 * k ∧ ∀ d ∈ D, (0 ≤ d.2.2 ∧ d.2.2 ≤ 1000) ∧ ∃ a b, a < b ∧ LayAt ls a d.2.1 ∧ LayAt ls b d.1, ⟨[], _, _, _, _, rfl, by simp, fun d h => (by cases h)⟩, fun k x Γ' hk hI => ?_, fun Γ' hI => ?_⟩
      · obtain ⟨hk, rfl⟩ := rangeD_get hk
        obtain ⟨D, a, b, c, d, rfl, f1, f2⟩ := hI
        have hk2 : k + 1 < ls.length := by omega
        have g1 : ls[k]? = some (ls[k]'(by omega)) := List.getElem?_eq_getElem _
        have g2 : ls[k + 1]? = some (ls[k + 1]'(by omega)) := List.getElem?_eq_getElem _
        have g3 := (e4 _ (List.mem_of_getElem? g1)).2
        have g4 := (e4 _ (List.mem_of_getElem? g2)).2
        revert g1 g2 g3 g4
        generalize ls[k]'(by omega) = la
        generalize ls[k + 1]'(by omega) = lb
        intro g1 g2 g3 g4
        have lay : ∀ {i : Nat} {l : List Nat}, ls[i]? = some l → (layD ls)[i]? = some (.list (natsD l)) := fun {i l} h => by rw [List.getElem?_map, h]; rfl
        rw [show (1 : Int) + (k : Nat) = ((k + 1 : Nat) : Int) by omega]
        walk_at "z"
        refine ws_seq (ws_set ?_)
        walk_at "z"
        refine ⟨by simp, by simp, fun v hv => ⟨_, rfl, ?_⟩⟩
        obtain ⟨v, rfl, v1, v2⟩ : ∃ u : Int, v = .int u ∧ 0 < u ∧ u ≤ 1001 := by
          simp at hv
          rcases hv with rfl | rfl | rfl
          · exact ⟨_, rfl, by decide, by decide⟩
          · exact ⟨_, rfl, by decide, by decide⟩
          · exact ⟨_, rfl, by decide, by decide⟩
        refine ws_for ?_
        walk_at "z"
        refine ⟨_, _, _, .inl rfl, rfl, atI_nat (lay g2), ?_⟩
        walk_at "z"
        refine ⟨fun j Γ' => ∃ (D : List Dm) (d : Sl), Γ' = [.own s .strm, .dat (.int many), .dat (.list (natsD zs)), .dat (.list []), .dat (.list (layD ls)), .own p2 (.lst (dmsD D)), a, .dat (.int ((k + 1 : Nat) : Int)), .dat (.int v), d, .un] ∧
          D.length ≤ 9 * k + 3 * j ∧ ∀ d ∈ D, (0 ≤ d.2.2 ∧ d.2.2 ≤ 1000) ∧ ∃ a b, a < b ∧ LayAt ls a d.2.1 ∧ LayAt ls b d.1, ⟨D, _, rfl, by omega, f2⟩, fun j x Γ' hj hI => ?_, fun Γ' hI => ?_⟩
        · obtain ⟨D, d, rfl, f1, f2⟩ := hI
          rw [List.getElem?_map, Option.map_eq_some_iff] at hj
          obtain ⟨x, hj, rfl⟩ := hj
          have hjl : j < lb.length := (List.getElem?_eq_some_iff.mp hj).1
          walk_at "z"
          refine ws_ext (p := p2) rfl (wd_f (wf_lc (by walk_at "v") ?_))
          walk_at "z"
          refine ⟨_, _, _, .inl rfl, rfl, by rw [show ((k + 1 : Nat) : Int) - 1 = (k : Int) by omega]; exact atI_nat (lay g1), ?_⟩
          walk_at "z"
          refine ⟨by simp; omega, fun t acc => ∃ E : List Dm, acc = dmsD E ∧ E.length = t ∧ ∀ d ∈ E, d.1 = x ∧ d.2.1 ∈ la ∧ 0 ≤ d.2.2 ∧ d.2.2 ≤ 1000, ⟨[], rfl, rfl, fun d h => (by cases h)⟩, fun t y acc ht hI => ?_, fun acc hI => ?_⟩
          · obtain ⟨E, rfl, h1, h2⟩ := hI
            rw [List.getElem?_map, Option.map_eq_some_iff] at ht
            obtain ⟨y, ht, rfl⟩ := ht
            walk_at "z"
            refine ⟨by omega, by omega, fun w w0 w1 => ⟨_, rfl, ?_⟩⟩
            walk_at "z"
            refine ⟨E ++ [(x, y, w)], by simp, by simp [h1], fun d hd => ?_⟩
            rcases List.mem_append.mp hd with h | h
            · exact h2 d h
            · rw [List.mem_singleton.mp h]
              exact ⟨rfl, List.mem_of_getElem? ht, w0, by show w ≤ 1000; omega⟩
          · obtain ⟨E, rfl, h1, h2⟩ := hI
            rw [List.length_map] at h1
            refine ⟨_, rfl, _, rfl, by simp; omega, D ++ E, _, by rw [← List.map_append]; rfl, by simp; omega, fun d hd => ?_⟩
            rcases List.mem_append.mp hd with h | h
            · exact f2 d h
            · obtain ⟨h3, h4, h5, h6⟩ := h2 d h
              exact ⟨⟨h5, h6⟩, k, k + 1, Nat.lt_succ_self _, ⟨la, g1, h4⟩, ⟨lb, g2, by rw [h3]; exact List.mem_of_getElem? hj⟩⟩
        · obtain ⟨D, d, rfl, f1, f2⟩ := hI
          rw [List.length_map] at f1
          exact ⟨D, _, _, _, _, rfl, by omega, f2⟩
      · obtain ⟨D, a, b, c, d, rfl, f1, f2⟩ := hI
        rw [rangeD_len] at f1
        refine ws_frz 5 rfl (ws_ret ?_)
        walk_at "z"
        refine ⟨by simp; omega, fun out hpm => ⟨_, rfl, ?_⟩⟩
        obtain ⟨D', rfl, pd⟩ := perm_inv unDm unDm_dmD hpm
        walk_at "z"
        refine ⟨fun _ => rfl, q zs.sum D' ls (LayOk.of (by omega) (by omega) (by omega) (by rw [pd.length_eq]; omega) (fun d hd => ?_) pp fun d hd => (f2 d (pd.mem_iff.mp hd)).2)⟩
        obtain ⟨⟨w1, w2⟩, a, b, _, ⟨la, ha, hx⟩, ⟨lb, hb, hy⟩⟩ := f2 d (pd.mem_iff.mp hd)
        have mem : ∀ {i : Nat} {l : List Nat} {x : Nat}, ls[i]? = some l → x ∈ l → x < zs.sum := fun {i l x} h1 h2 => List.mem_range.mp (pp.mem_iff.mp (List.mem_flatten.mpr ⟨l, List.mem_of_getElem? h1, h2⟩))
        exact ⟨mem hb hy, mem ha hx, w1, w2⟩
/-! ### cells of a grid, numbered -/
abbrev Sp2 := Nat × Nat
def allS (h w : Nat) : List Sp2 := (List.range h).flatMap fun r => (List.range w).map fun c => (r, c)
theorem allS_succ (h w : Nat) : allS (h + 1) w = allS h w ++ (List.range w).map fun c => (h, c) := by
  unfold allS
  rw [List.range_succ, List.flatMap_append]
  simp
theorem mem_allS {h w : Nat} {p : Sp2} : p ∈ allS h w ↔ p.1 < h ∧ p.2 < w := by
  unfold allS
  simp only [List.mem_flatMap, List.mem_map, List.mem_range]
  constructor
  · rintro ⟨r, hr, c, hc, rfl⟩; exact ⟨hr, hc⟩
  · rintro ⟨h1, h2⟩; exact ⟨p.1, h1, p.2, h2, rfl⟩
theorem len_allS : ∀ h w : Nat, (allS h w).length = h * w
  | 0, w => by simp [allS]
  | h + 1, w => by rw [allS_succ, List.length_append, len_allS h w, List.length_map, List.length_range, Nat.succ_mul]
theorem nodup_allS : ∀ h w : Nat, (allS h w).Nodup
  | 0, w => by simp [allS]
  | h + 1, w => by
    rw [allS_succ]
    refine List.nodup_append.mpr ⟨nodup_allS h w, ?_, fun p hp q hq e => ?_⟩
    · refine List.pairwise_map.mpr ((List.nodup_range (n := w)).imp fun {a b} hab e => hab ?_)
      exact congrArg Prod.snd e
    · obtain ⟨c, _, rfl⟩ := List.mem_map.mp hq
      have := (mem_allS.mp hp).1
      rw [e] at this
      exact Nat.lt_irrefl _ this
abbrev keyP (p : Sp2) : List Key := [.inl (p.1 : Int), .inl (p.2 : Int)]
abbrev spD (p : Sp2) : PyData := .tuple [.int (p.1 : Nat), .int (p.2 : Nat)]
def unSp : PyData → Sp2 | .tuple [.int x, .int y] => (x.toNat, y.toNat) | _ => (0, 0)
theorem unSp_spD (p : Sp2) : unSp (spD p) = p := by simp [unSp, spD]
theorem keyP_inj {p q : Sp2} (h : keyP p = keyP q) : p = q := by
  have h1 : (p.1 : Int) = q.1 ∧ (p.2 : Int) = q.2 := by
    simp only [keyP, List.cons.injEq, Sum.inl.injEq, and_true] at h
    exact h
  exact Prod.ext (by omega) (by omega)
def numF (S : List Sp2) : Nat → List Key → Option PyData
  | 0 => fun _ => none
  | k + 1 => fun j => if j = keyP (S.getD k (0, 0)) then some (.int (k : Nat)) else numF S k j
theorem getD_at {α : Type} {l : List α} {k : Nat} {a d : α} (h : l[k]? = some a) : l.getD k d = a := by simp [List.getD, h]
theorem numF_some {S : List Sp2} : ∀ {k : Nat} {j : List Key} {d : PyData}, k ≤ S.length → numF S k j = some d → ∃ i p, i < k ∧ S[i]? = some p ∧ j = keyP p ∧ d = .int (i : Nat)
  | 0, _, _, _, h => by cases h
  | k + 1, j, d, hk, h => by
    have h : (if j = keyP (S.getD k (0, 0)) then some (PyData.int (k : Nat)) else numF S k j) = some d := h
    have e := List.getElem?_eq_getElem (l := S) (i := k) (by omega)
    by_cases z : j = keyP (S.getD k (0, 0))
    · rw [if_pos z] at h
      cases h
      rw [getD_at e] at z
      exact ⟨k, _, Nat.lt_succ_self _, e, z, rfl⟩
    · rw [if_neg z] at h
      obtain ⟨i, p, h1, h2⟩ := numF_some (by omega) h
      exact ⟨i, p, by omega, h2⟩
theorem numF_at {S : List Sp2} (nd : S.Nodup) : ∀ {k i : Nat} {p : Sp2}, k ≤ S.length → i < k → S[i]? = some p → numF S k (keyP p) = some (.int (i : Nat))
  | k + 1, i, p, hk, hi, h => by
    show (if keyP p = keyP (S.getD k (0, 0)) then some (PyData.int (k : Nat)) else numF S k (keyP p)) = _
    have e := List.getElem?_eq_getElem (l := S) (i := k) (by omega)
    rw [getD_at e]
    by_cases z : i = k
    · subst z
      rw [h] at e
      cases e
      rw [if_pos rfl]
    · rw [if_neg fun q => ?_]
      · exact numF_at nd (by omega) (by omega) h
      · have q := keyP_inj q
        obtain ⟨hi', he⟩ := List.getElem?_eq_some_iff.mp h
        exact z ((List.getElem_inj nd).mp (he.trans q))
abbrev sumAt (S : List Sp2) (a : Nat) : Nat := (S.getD a (0, 0)).1 + (S.getD a (0, 0)).2
abbrev LT (S : List Sp2) (k j : Nat) : List Nat := (List.range k).filter fun a => sumAt S a == j
abbrev rowsL (m : Nat) (S : List Sp2) (k : Nat) : List (List PyData) := (List.range m).map fun j => natsD (LT S k j)
theorem LT_succ (S : List Sp2) (k j : Nat) : LT S (k + 1) j = LT S k j ++ if sumAt S k == j then [k] else [] := by
  unfold LT
  rw [List.range_succ, List.filter_append]
  simp [List.filter_cons]
theorem rowsL_at {m k j : Nat} {S : List Sp2} (h : j < m) : (rowsL m S k)[j]? = some (natsD (LT S k j)) := by simp [h]
theorem rowsL_nil {m : Nat} {S : List Sp2} : rowsL m S 0 = List.replicate m [] := by
  apply List.ext_getElem?
  intro i
  rw [List.getElem?_map, List.getElem?_replicate]
  by_cases h : i < m
  · simp [h]
  · rw [if_neg h, List.getElem?_eq_none (by simp; omega)]; rfl
theorem rowsL_add {m k : Nat} {S : List Sp2} (h : sumAt S k < m) : (rowsL m S k).set (sumAt S k) (natsD (LT S k (sumAt S k)) ++ [.int (k : Nat)]) = rowsL m S (k + 1) := by
  apply List.ext_getElem?
  intro j
  rw [List.getElem?_set]
  by_cases e : sumAt S k = j
  · rw [if_pos e, if_pos (by simpa using h)]
    subst e
    rw [rowsL_at h, LT_succ, if_pos (by simp)]
    simp [natsD]
  · rw [if_neg e]
    by_cases hj : j < m
    · rw [rowsL_at hj, rowsL_at hj, LT_succ, if_neg (by simpa using e), List.append_nil]
    · rw [List.getElem?_eq_none (by simp; omega), List.getElem?_eq_none (by simp; omega)]
theorem LT_perm {m n : Nat} {S : List Sp2} (h : ∀ a, a < n → sumAt S a < m) : ((List.range m).map (LT S n)).flatten.Perm (List.range n) := by
  refine (List.perm_ext_iff_of_nodup ?_ List.nodup_range).mpr fun a => ?_
  · refine List.pairwise_flatten.mpr ⟨fun l hl => ?_, List.pairwise_map.mpr ((List.nodup_range (n := m)).imp fun {i j} hij x hx y hy e => hij ?_)⟩
    · obtain ⟨j, _, rfl⟩ := List.mem_map.mp hl
      exact List.nodup_range.filter _
    · have h1 := (List.mem_filter.mp hx).2
      have h2 := (List.mem_filter.mp hy).2
      rw [e] at h1
      simp only [beq_iff_eq] at h1 h2
      exact h1.symm.trans h2
  · constructor
    · intro ha
      obtain ⟨l, hl, ha⟩ := List.mem_flatten.mp ha
      obtain ⟨j, _, rfl⟩ := List.mem_map.mp hl
      exact (List.mem_filter.mp ha).1
    · intro ha
      exact List.mem_flatten.mpr ⟨_, List.mem_map.mpr ⟨_, List.mem_range.mpr (h a (List.mem_range.mp ha)), rfl⟩, List.mem_filter.mpr ⟨ha, by simp⟩⟩
theorem LT_at {m n j x : Nat} {S : List Sp2} (hj : j < m) (hx : x < n) (e : sumAt S x = j) : LayAt ((List.range m).map (LT S n)) j x :=
  ⟨LT S n j, by simp [hj], List.mem_filter.mpr ⟨List.mem_range.mpr hx, by simpa using e⟩⟩
abbrev P__law_cells (ds : List PyData) (Φ : Rv → Prop) : Prop := ∃ h w : Nat, ds = [.int h, .int w] ∧ 1 ≤ h ∧ 1 ≤ w ∧ h * w ≤ 400 ∧ h ≤ 400 ∧ w ≤ 400 ∧ ∀ n dms layers, LayOk n dms layers → Φ (.dat (.tuple [.list (dmsD dms), .list (layD layers)]))
theorem len__law_cells (ds : List PyData) (Φ : Rv → Prop) (h : P__law_cells ds Φ) : ds.length = 2 := by obtain ⟨_, _, rfl, _⟩ := h; rfl
def t__law_cells (K : PySem.W.Frag) : TS :=
  (tSeq (tAsg (tTup (tCons (tLst tNil) (tCons tDNewT (tCons (tLst tNil) tNil)))) (gTup K 3 (gCons (gName 3) (gCons (gName 4) (gCons (gName 5) gNil)))))
  (tSeq (tFor (iRng1 (tCons (tVar 1) tNil)) (gName 6) (tAsg (tOp rCat (tVar 3) (tLc (iRng1 (tCons (tVar 2) tNil)) (gName 9) tYes (tTup (tCons (tVar 6) (tCons (tVar 9) tNil))) [9])) (gName 3)))
  (tSeq (tAsg (tCall (spZ K true P__law_shuffled) [] E0 (tCons (tVar 0) (tCons (tVar 3) tNil))) (gName 3))
  (tSeq (tFor (iRng1 (tCons (tCB (rLenQ K) (tCons (tVar 3) tNil)) tNil)) (gName 7) (sDPut (tVar 4) (tOp (rIx K) (tVar 3) (tVar 7)) (tVar 7)))
  (tSeq (tAsg (tCall (spZ K true P__law_pick) [] E0 (tCons (tVar 0) (tCons (tLst (tCons (tC (.int 2)) (tCons (tC (.int 3)) (tCons (tC (.int 1001)) tNil)))) tNil))) (gName 8))
  (tSeq (tFor (iList K (tVar 3)) (gTup K 2 (gCons (gName 6) (gCons (gName 9) gNil))) (tDrop (tBM K "list" rExtend (tVar 5) (tCons (tLc (iList K (tLst (tCons (tTup (tCons (tVar 6) (tCons (tOp rAddI (tVar 9) (tC (.int 1))) tNil))) (tCons (tTup (tCons (tOp rAddI (tVar 6) (tC (.int 1))) (tCons (tVar 9) tNil))) tNil)))) (gName 11) (tB (tDIn (tVar 11) (tVar 4))) (tTup (tCons (tDGet (tVar 4) (tVar 11)) (tCons (tDGet (tVar 4) (tTup (tCons (tVar 6) (tCons (tVar 9) tNil)))) (tCons (tCall (spZ K true P__law_next) [] E0 (tCons (tVar 0) (tCons (tVar 8) tNil))) tNil)))) [11]) tNil))))
  (tSeq (tAsg (tLc (iRng1 (tCons (tOp rSubI (tOp rAddI (tVar 1) (tVar 2)) (tC (.int 1))) tNil)) (gName 7) tYes (tLst tNil) [7]) (gName 10))
  (tSeq (tFor (iRng1 (tCons (tCB (rLenQ K) (tCons (tVar 3) tNil)) tNil)) (gName 7) (tDrop (tBM K "list" rAppend (tOp (rIx K) (tVar 10) (tOp rAddI (tOp (rIx K) (tOp (rIx K) (tVar 3) (tVar 7)) (tC (.int 0))) (tOp (rIx K) (tOp (rIx K) (tVar 3) (tVar 7)) (tC (.int 1))))) (tCons (tVar 7) tNil))))
  (tRet (tTup (tCons (tCall (spZ K true P__law_shuffled) [] E0 (tCons (tVar 0) (tCons (tVar 5) tNil))) (tCons (tVar 10) tNil))))))))))))
theorem W__law_cells (K : PySem.W.Frag) (ds : List PyData) (Φ : Rv → Prop) (s : Addr) (p : P__law_cells ds Φ) : Wz K (t__law_cells K) true s ds 9 Φ := by
  obtain ⟨h, w, rfl, h1, w1, hw, h4, w4, q⟩ := p
  have hz : sizeLine = 16777216 := sizeLine_eq
  show Ws K _ [.own s .strm, .dat (.int h), .dat (.int w), .un, .un, .un, .un, .un, .un, .un, .un, .un] _ _ _ _
  unfold t__law_cells
  refine ws_seq (ws_asgM3 (wam_cons (wm_d (wd_f (wf_lst (wa_nil ⟨by simp, _, rfl, ?_⟩))))))
  refine wam_cons (wm_f (wf_dnewT fun p1 => ?_))
  refine wam_cons (wm_f (wf_lst (wa_nil ⟨by simp, fun p2 => wam_nil ⟨_, _, _, rfl, ?_⟩⟩)))
  refine ws_seq (ws_for ?_)
  walk_at "z"
  refine ⟨by omega, by omega, ?_⟩
  refine ⟨fun k Γ' => ∃ a b : Sl, Γ' = [.own s .strm, .dat (.int h), .dat (.int w), .dat (.list ((allS k w).map spD)), .own p1 (.dt 0 fun _ => none), .own p2 (.lst []), a, .un, .un, b, .un, .un], ⟨_, _, rfl⟩, fun k d Γ' hk hI => ?_, fun Γ' hI => ?_⟩
  · obtain ⟨hk, rfl⟩ := rangeD_get hk
    obtain ⟨a, b, rfl⟩ := hI
    rw [Int.zero_add]
    walk_at "z"
    refine ws_forget 9 (ws_set (wd_f (wf_cat (wr_d (wd_var rfl (wr_d (wd_f (wf_mapL Nat (by walk_at "v") ?_))))))))
    walk_at "z"
    refine ⟨by omega, by omega, ?_⟩
    have hkh : k + 1 ≤ h := by omega
    have len := Nat.mul_le_mul_right w hkh
    have len2 := len_allS (k + 1) w
    rw [allS_succ, List.length_append, List.length_map, List.length_range] at len2
    refine ⟨List.range w, fun c => .int (c : Nat), fun c => spD (k, c), by rw [rangeD_map]; rfl, sl24 (by simp; omega), fun c hc => ?_, ?_⟩
    · walk_at "z"
      rfl
    · refine ⟨_, rfl, _, _, rfl, rfl, by simp only [List.length_map, List.length_range]; omega, _, rfl, .dat (.int (k : Nat)), .un, ?_⟩
      rw [allS_succ, List.map_append, List.map_map]
      rfl
  · obtain ⟨a, b, rfl⟩ := hI
    rw [rangeD_len, show ((h : Int).toNat) = h from Int.toNat_natCast h]
    refine ws_seq (ws_set ?_)
    walk_at "z"
    have la := len_allS h w
    refine ⟨by simp only [List.length_map]; omega, fun out hpm => ⟨_, rfl, ?_⟩⟩
    obtain ⟨S, rfl, pS⟩ := perm_inv unSp unSp_spD hpm
    have nS : S.Nodup := pS.nodup_iff.mpr (nodup_allS h w)
    have lS : S.length = h * w := by rw [pS.length_eq, la]
    have mS : ∀ p, p ∈ S → p.1 < h ∧ p.2 < w := fun p hp => mem_allS.mp (pS.mem_iff.mp hp)
    have at_ : ∀ {k : Nat} {p : Sp2}, S[k]? = some p → (S.map spD)[k]? = some (spD p) := fun {k p} hp => by rw [List.getElem?_map, hp]; rfl
    clear hpm
    refine ws_seq (ws_for ?_)
    walk_at "z"
    refine ⟨by simp only [List.length_map]; omega, by simp only [List.length_map]; omega, ?_⟩
    refine ⟨fun k Γ' => ∃ a b c : Sl, Γ' = [.own s .strm, .dat (.int h), .dat (.int w), .dat (.list (S.map spD)), .own p1 (.dt k (numF S k)), .own p2 (.lst []), a, b, .un, c, .un, .un], ⟨_, _, _, rfl⟩, fun k d Γ' hk hI => ?_, fun Γ' hI => ?_⟩
    · obtain ⟨hk', rfl⟩ := rangeD_get hk
      obtain ⟨a, b, c, rfl⟩ := hI
      have hk : k < S.length := by simpa using hk'
      have hp : S[k]? = some S[k] := List.getElem?_eq_getElem hk
      revert hp
      generalize S[k] = p
      intro hp
      rw [Int.zero_add]
      walk_at "z"
      refine ws_dputT (p := p1) rfl (by omega) ?_
      walk_at "z"
      refine ⟨_, _, _, .inl rfl, rfl, atI_nat (at_ hp), ?_⟩
      have e : numF S (k + 1) = fun j => if j = keyP p then some (.int (k : Nat)) else numF S k j := by
        funext j
        show (if j = keyP (S.getD k (0, 0)) then some (PyData.int (k : Nat)) else numF S k j) = _
        rw [getD_at hp]
      refine ⟨keyP p, rfl, a, .dat (.int (k : Nat)), c, ?_⟩
      rw [e]
      rfl
    · obtain ⟨a, b, c, rfl⟩ := hI
      rw [rangeD_len, show (((S.map spD).length : Int).toNat) = S.length by simp]
      refine ws_seq (ws_set ?_)
      walk_at "z"
      refine ⟨by simp, by simp, fun v hv => ⟨_, rfl, ?_⟩⟩
      obtain ⟨v, rfl, v1, v2⟩ : ∃ u : Int, v = .int u ∧ 0 < u ∧ u ≤ 1001 := by
        simp at hv
        rcases hv with rfl | rfl | rfl
        · exact ⟨_, rfl, by decide, by decide⟩
        · exact ⟨_, rfl, by decide, by decide⟩
        · exact ⟨_, rfl, by decide, by decide⟩
      refine ws_seq (ws_for ?_)
      walk_at "z"
      refine ⟨fun k Γ' => ∃ (D : List Dm) (a b c : Sl), Γ' = [.own s .strm, .dat (.int h), .dat (.int w), .dat (.list (S.map spD)), .own p1 (.dt S.length (numF S S.length)), .own p2 (.lst (dmsD D)), a, b, .dat (.int v), c, .un, .un] ∧
        D.length ≤ 2 * k ∧ ∀ d ∈ D, (0 ≤ d.2.2 ∧ d.2.2 ≤ 1000) ∧ ∃ p q, S[d.2.1]? = some p ∧ S[d.1]? = some q ∧ q.1 + q.2 = p.1 + p.2 + 1, ⟨[], _, _, _, rfl, by simp, fun d h => (by cases h)⟩, fun k d Γ' hk hI => ?_, fun Γ' hI => ?_⟩
      · obtain ⟨D, a, b, c, rfl, f1, f2⟩ := hI
        rw [List.getElem?_map, Option.map_eq_some_iff] at hk
        obtain ⟨p, hp, rfl⟩ := hk
        have hkS : k < S.length := (List.getElem?_eq_some_iff.mp hp).1
        walk_at "z"
        refine ws_ext (p := p2) rfl (wd_f (wf_lc (by walk_at "v") ?_))
        refine wi_list (wd_f (wf_lst ?_))
        walk_at "z"
        have kk := k
        refine ⟨fun t acc => ∃ E : List Dm, acc = dmsD E ∧ E.length ≤ t ∧ ∀ d ∈ E, (0 ≤ d.2.2 ∧ d.2.2 ≤ 1000) ∧ d.2.1 = k ∧ ∃ q, S[d.1]? = some q ∧ q.1 + q.2 = p.1 + p.2 + 1, ⟨[], rfl, Nat.le_refl _, fun d h => (by cases h)⟩, fun t d acc ht hI => ?_, fun acc hI => ?_⟩
        · obtain ⟨E, rfl, g1, g2⟩ := hI
          obtain ⟨o, rfl, ho⟩ : ∃ o : Sp2, d = spD o ∧ o.1 + o.2 = p.1 + p.2 + 1 := by
            match t, ht with
            | 0, ht => cases ht; exact ⟨(p.1, p.2 + 1), rfl, by show p.1 + (p.2 + 1) = _; omega⟩
            | 1, ht => cases ht; exact ⟨(p.1 + 1, p.2), rfl, by show p.1 + 1 + p.2 = _; omega⟩
            | n + 2, ht => cases ht
          walk_at "z"
          refine ⟨keyP o, rfl, _, rfl, fun hs => ?_, fun _ => ⟨E, rfl, by omega, g2⟩⟩
          obtain ⟨v2, hv2⟩ := Option.isSome_iff_exists.mp hs
          obtain ⟨i, p', hi, hp', hk', rfl⟩ := numF_some (Nat.le_refl _) hv2
          have e := keyP_inj hk'
          subst e
          walk_at "z"
          refine ⟨keyP o, .int (i : Nat), rfl, hv2, ?_⟩
          walk_at "z"
          refine ⟨keyP p, .int (k : Nat), rfl, numF_at nS (Nat.le_refl _) hkS hp, ?_⟩
          walk_at "z"
          refine ⟨by omega, by omega, fun u u0 u1 => ⟨_, rfl, ?_⟩⟩
          walk_at "z"
          refine ⟨E ++ [(i, k, u)], by simp, by simp; omega, fun d hd => ?_⟩
          rcases List.mem_append.mp hd with h | h
          · exact g2 d h
          · rw [List.mem_singleton.mp h]
            exact ⟨⟨u0, by show u ≤ 1000; omega⟩, rfl, o, hp', ho⟩
        · obtain ⟨E, rfl, g1, g2⟩ := hI
          have g1 : E.length ≤ 2 := g1
          refine ⟨_, rfl, _, rfl, by simp only [List.length_map]; omega, D ++ E, _, _, _, by rw [← List.map_append]; rfl, by simp; omega, fun d hd => ?_⟩
          rcases List.mem_append.mp hd with h | h
          · exact f2 d h
          · obtain ⟨g3, g4, q', g5, g6⟩ := g2 d h
            exact ⟨g3, p, q', by rw [g4]; exact hp, g5, g6⟩
      · obtain ⟨D, a, b, c, rfl, f1, f2⟩ := hI
        rw [List.length_map] at f1
        refine ws_seq (ws_forget 7 (ws_setF (wf_lcE (by walk_at "v") ?_)))
        walk_at "z"
        refine ⟨by omega, by omega, by rw [rangeD_len]; omega, fun k d _ => ?_, fun qs hqs p3 => ?_⟩
        · walk_at "z"
          trivial
        rw [rangeD_len, show ((h : Int) + (w : Int) - 1).toNat = h + w - 1 by omega, ← rowsL_nil (S := S)]
        have hs : ∀ {k : Nat} {p : Sp2}, S[k]? = some p → sumAt S k = p.1 + p.2 ∧ sumAt S k < h + w - 1 := fun {k p} hp => by
          have h1 := mS p (List.mem_of_getElem? hp)
          have h2 : sumAt S k = p.1 + p.2 := by show (S.getD k (0, 0)).1 + (S.getD k (0, 0)).2 = _; rw [getD_at hp]
          exact ⟨h2, by omega⟩
        refine ws_seq (ws_for ?_)
        walk_at "z"
        refine ⟨by simp only [List.length_map]; omega, by simp only [List.length_map]; omega, ?_⟩
        refine ⟨fun k Γ' => ∃ a b c : Sl, Γ' = [.own s .strm, .dat (.int h), .dat (.int w), .dat (.list (S.map spD)), .own p1 (.dt S.length (numF S S.length)), .own p2 (.lst (dmsD D)), a, b, .dat (.int v), c, .own p3 (.ll qs (rowsL (h + w - 1) S k)), .un], ⟨_, _, _, rfl⟩, fun k d Γ' hk hI => ?_, fun Γ' hI => ?_⟩
        · obtain ⟨hk', rfl⟩ := rangeD_get hk
          obtain ⟨a, b, c, rfl⟩ := hI
          have hk : k < S.length := by simpa using hk'
          have hp : S[k]? = some S[k] := List.getElem?_eq_getElem hk
          revert hp
          generalize S[k] = p
          intro hp
          obtain ⟨s1, s2⟩ := hs hp
          have rl : (LT S k (sumAt S k)).length ≤ k := by
            have := List.length_filter_le (fun a => sumAt S a == sumAt S k) (List.range k)
            rw [List.length_range] at this
            exact this
          rw [Int.zero_add]
          walk_at "z"
          refine ws_appRow (p := p3) rfl ?_
          walk_at "z"
          refine ⟨_, _, _, .inl rfl, rfl, atI_nat (at_ hp), ?_⟩
          walk_at "z"
          refine ⟨_, _, _, .inl rfl, rfl, atI_nat (at_ hp), ?_⟩
          walk_at "z"
          refine ⟨_, sumAt S k, _, rfl, by rw [show (p.1 : Int) + (p.2 : Int) = ((sumAt S k : Nat) : Int) by omega]; exact ixN_nat (by simpa using s2), rowsL_at s2, by simp only [List.length_map]; omega, ?_⟩
          walk_at "z"
          refine ⟨a, .dat (.int (k : Nat)), c, ?_⟩
          rw [← rowsL_add s2]
          rfl
        · obtain ⟨a, b, c, rfl⟩ := hI
          rw [rangeD_len, show (((S.map spD).length : Int).toNat) = S.length by simp]
          refine ws_frz 5 rfl (ws_frzL 10 rfl (ws_ret ?_))
          walk_at "z"
          refine ⟨by simp only [List.length_map]; omega, fun out hpm => ⟨_, rfl, ?_⟩⟩
          obtain ⟨D', rfl, pd⟩ := perm_inv unDm unDm_dmD hpm
          walk_at "z"
          rw [show (rowsL (h + w - 1) S S.length).map PyData.list = layD ((List.range (h + w - 1)).map (LT S S.length)) by simp [rowsL, layD]]
          have n1 : 1 ≤ h * w := Nat.mul_pos h1 w1
          refine ⟨fun _ => rfl, q S.length D' _ (LayOk.of (by omega) (by omega) (by simp; omega) (by rw [pd.length_eq]; omega) (fun d hd => ?_) (LT_perm fun a ha => (hs (List.getElem?_eq_getElem ha)).2) fun d hd => ?_)⟩
          · obtain ⟨⟨u1, u2⟩, p, q', g1, g2, g3⟩ := f2 d (pd.mem_iff.mp hd)
            exact ⟨(List.getElem?_eq_some_iff.mp g2).1, (List.getElem?_eq_some_iff.mp g1).1, u1, u2⟩
          · obtain ⟨⟨u1, u2⟩, p, q', g1, g2, g3⟩ := f2 d (pd.mem_iff.mp hd)
            have g4 := hs g1
            have g5 := hs g2
            exact ⟨sumAt S d.2.1, sumAt S d.1, by omega, LT_at g4.2 (List.getElem?_eq_some_iff.mp g1).1 rfl, LT_at g5.2 (List.getElem?_eq_some_iff.mp g2).1 rfl⟩
/-! ### the plain law of the layers -/
theorem idxOf_lt {pl : List Nat} {i a : Nat} (h : a ∈ pl.take i) : pl.idxOf a < i := by
  have e : pl.idxOf a = (pl.take i).idxOf a := by
    conv => lhs; rw [← List.take_append_drop i pl]
    rw [List.idxOf_append, if_pos h]
  rw [e]
  have h2 := List.idxOf_lt_length_of_mem h
  rw [List.length_take] at h2
  omega
section
variable {n : Nat} {dms : List Dm} {pl : List Nat}
theorem rank_of (pm : pl.Perm (List.range n)) (ht : Topo dms pl) (hp : ∀ d ∈ dms, d.1 < n ∧ d.2.1 < n) : (∀ d ∈ dms, pl.idxOf d.2.1 < pl.idxOf d.1) ∧ ∀ x, x < n → pl.idxOf x < n := by
  have mem : ∀ x, x < n → x ∈ pl := fun x hx => pm.mem_iff.mpr (List.mem_range.mpr hx)
  refine ⟨fun d hd => ?_, fun x hx => ?_⟩
  · have hx := mem _ (hp d hd).1
    have h1 := List.idxOf_lt_length_of_mem hx
    have h2 : pl[pl.idxOf d.1]? = some d.1 := by
      rw [List.getElem?_eq_getElem h1, List.getElem_idxOf]
    exact idxOf_lt (ht _ _ h2 d hd rfl)
  · have h1 := List.idxOf_lt_length_of_mem (mem x hx)
    rw [pm.length_eq, List.length_range] at h1
    exact h1
theorem Fix.of_rz {beg G : Nat → Int} {r : Nat → Nat} (X : Rz n dms beg G) (hp : ∀ d ∈ dms, d.1 < n ∧ d.2.1 < n) (rk : ∀ d ∈ dms, r d.2.1 < r d.1) (rn : ∀ x, x < n → r x < n) : Fix n dms (fun x => some (beg x)) (fun x => some (G x)) r := by
  refine ⟨hp, rk, rn, fun x hx v hv => ?_, fun d hd v hv => ?_, fun x hx => ?_⟩
  · cases hv
    exact ⟨_, rfl, X.lo x hx⟩
  · have hv : some (G d.2.1 + d.2.2) = some v := hv
    cases hv
    exact ⟨_, rfl, X.up d hd⟩
  · rcases X.by_ x hx with h | ⟨d, hd, h1, h2⟩
    · exact .inl (congrArg some h)
    · exact .inr ⟨d, hd, h1, congrArg some h2⟩
theorem Rz.le {beg G G' : Nat → Int} {r : Nat → Nat} (X : Rz n dms beg G) (Y : Rz n dms beg G') (hp : ∀ d ∈ dms, d.1 < n ∧ d.2.1 < n) (rk : ∀ d ∈ dms, r d.2.1 < r d.1) : ∀ x, x < n → G x ≤ G' x := by
  have go : ∀ m x, r x < m → x < n → G x ≤ G' x := by
    intro m
    induction m with
    | zero => intro x h; exact absurd h (Nat.not_lt_zero _)
    | succ m ih =>
      intro x hx hn
      rcases X.by_ x hn with h | ⟨d, hd, h1, h2⟩
      · rw [h]; exact Y.lo x hn
      · subst h1
        have h3 := ih _ (by have := rk d hd; omega) (hp d hd).2
        have h4 := Y.up d hd
        omega
  exact fun x hx => go _ x (Nat.lt_succ_self _) hx
theorem Rz.uniq {beg G G' : Nat → Int} {r : Nat → Nat} (X : Rz n dms beg G) (Y : Rz n dms beg G') (hp : ∀ d ∈ dms, d.1 < n ∧ d.2.1 < n) (rk : ∀ d ∈ dms, r d.2.1 < r d.1) : ∀ x, x < n → G x = G' x :=
  fun x hx => Int.le_antisymm (X.le Y hp rk x hx) (Y.le X hp rk x hx)
theorem Rz.bound {beg G : Nat → Int} {r : Nat → Nat} {B : Int} (X : Rz n dms beg G) (hp : ∀ d ∈ dms, d.1 < n ∧ d.2.1 < n) (hw : ∀ d ∈ dms, d.2.2 ≤ 1000) (rk : ∀ d ∈ dms, r d.2.1 < r d.1) (hb : ∀ x, x < n → beg x ≤ B) : ∀ x, x < n → G x ≤ B + 1000 * (r x : Nat) := by
  have go : ∀ m x, r x < m → x < n → G x ≤ B + 1000 * (r x : Nat) := by
    intro m
    induction m with
    | zero => intro x h; exact absurd h (Nat.not_lt_zero _)
    | succ m ih =>
      intro x hx hn
      rcases X.by_ x hn with h | ⟨d, hd, h1, h2⟩
      · have := hb x hn; omega
      · subst h1
        have h5 := rk d hd
        have h3 := ih _ (by omega) (hp d hd).2
        have h4 := hw d hd
        omega
  exact fun x hx => go _ x (Nat.lt_succ_self _) hx
/-! ### the heaviest ways from a place exist -/
def oMax : Option Int → Option Int → Option Int
  | none, b => b
  | a, none => a
  | some a, some b => some (max a b)
theorem oMax_l (a b : Option Int) : oLe a (oMax a b) := by
  cases a with
  | none => exact oLe.non _
  | some a => cases b with
    | none => exact .refl _
    | some b => exact fun x hx => by cases hx; exact ⟨_, rfl, Int.le_max_left _ _⟩
theorem oMax_r (a b : Option Int) : oLe b (oMax a b) := by
  cases b with
  | none => exact oLe.non _
  | some b => cases a with
    | none => exact .refl _
    | some a => exact fun x hx => by cases hx; exact ⟨_, rfl, Int.le_max_right _ _⟩
theorem oMax_or (a b : Option Int) : oMax a b = a ∨ oMax a b = b := by
  cases a with
  | none => exact .inr rfl
  | some a => cases b with
    | none => exact .inl rfl
    | some b =>
      by_cases h : a ≤ b
      · exact .inr (congrArg some (Int.max_eq_right h))
      · exact .inl (congrArg some (Int.max_eq_left (by omega)))
def oMaxL : List (Option Int) → Option Int
  | [] => none
  | a :: r => oMax a (oMaxL r)
theorem oMaxL_ge : ∀ {l : List (Option Int)} {a : Option Int}, a ∈ l → oLe a (oMaxL l)
  | b :: r, a, h => by
    rcases List.mem_cons.mp h with z | z
    · rw [z]; exact oMax_l _ _
    · exact (oMaxL_ge z).trans (oMax_r _ _)
theorem oMaxL_mem : ∀ {l : List (Option Int)}, oMaxL l = none ∨ oMaxL l ∈ l
  | [] => .inl rfl
  | a :: r => by
    show oMax a (oMaxL r) = none ∨ oMax a (oMaxL r) ∈ a :: r
    rcases oMax_or a (oMaxL r) with h | h
    · rw [h]; exact .inr List.mem_cons_self
    · rw [h]
      rcases oMaxL_mem (l := r) with q | q
      · exact .inl q
      · exact .inr (List.mem_cons_of_mem _ q)
theorem fix_ex {vals : Nat → Option Int} {r : Nat → Nat} (hp : ∀ d ∈ dms, d.1 < n ∧ d.2.1 < n) (rk : ∀ d ∈ dms, r d.2.1 < r d.1) (rn : ∀ x, x < n → r x < n) : ∃ F, Fix n dms vals F r := by
  have go : ∀ m : Nat, ∃ F : Nat → Option Int, (∀ x, oLe (vals x) (F x)) ∧ (∀ d ∈ dms, r d.1 < m → oLe (oAdd (F d.2.1) d.2.2) (F d.1)) ∧ (∀ x, F x = vals x ∨ ∃ d ∈ dms, d.1 = x ∧ F x = oAdd (F d.2.1) d.2.2) ∧ ∀ x, m ≤ r x → F x = vals x := by
    intro m
    induction m with
    | zero => exact ⟨vals, fun _ => .refl _, fun _ _ h => absurd h (Nat.not_lt_zero _), fun _ => .inl rfl, fun _ _ => rfl⟩
    | succ m ih =>
      obtain ⟨F, f1, f2, f3, f4⟩ := ih
      have ex : ∃ F' : Nat → Option Int, (∀ x, r x ≠ m → F' x = F x) ∧ ∀ x, r x = m → F' x = oMaxL (vals x :: (dms.filter fun d => d.1 == x).map fun d => oAdd (F d.2.1) d.2.2) :=
        ⟨fun x => if r x = m then oMaxL (vals x :: (dms.filter fun d => d.1 == x).map fun d => oAdd (F d.2.1) d.2.2) else F x, fun x h => if_neg h, fun x h => if_pos h⟩
      obtain ⟨F', g1, g2⟩ := ex
      refine ⟨F', fun x => ?_, fun d hd hr => ?_, fun x => ?_, fun x hx => ?_⟩
      · by_cases z : r x = m
        · rw [g2 x z]; exact oMaxL_ge List.mem_cons_self
        · rw [g1 x z]; exact f1 x
      · have h1 := rk d hd
        rw [g1 d.2.1 (by omega)]
        by_cases z : r d.1 = m
        · rw [g2 d.1 z]
          exact oMaxL_ge (List.mem_cons_of_mem _ (List.mem_map.mpr ⟨d, List.mem_filter.mpr ⟨hd, by simp⟩, rfl⟩))
        · rw [g1 d.1 z]; exact f2 d hd (by omega)
      · by_cases z : r x = m
        · rw [g2 x z]
          rcases oMaxL_mem (l := vals x :: (dms.filter fun d => d.1 == x).map fun d => oAdd (F d.2.1) d.2.2) with h | h
          · refine .inl ?_
            have h2 : oLe (vals x) (oMaxL (vals x :: (dms.filter fun d => d.1 == x).map fun d => oAdd (F d.2.1) d.2.2)) := oMaxL_ge List.mem_cons_self
            rw [h] at h2 ⊢
            exact (oLe.non _).eq h2
          · rcases List.mem_cons.mp h with q | q
            · exact .inl q
            · obtain ⟨d, hd, e⟩ := List.mem_map.mp q
              obtain ⟨d1, d2⟩ := List.mem_filter.mp hd
              have d2 : d.1 = x := by simpa using d2
              exact .inr ⟨d, d1, d2, by rw [g1 d.2.1 (by have := rk d d1; rw [d2] at this; omega)]; exact e.symm⟩
        · rw [g1 x z]
          by_cases zz : m ≤ r x
          · exact .inl (f4 x zz)
          rcases f3 x with h | ⟨d, hd, e1, e2⟩
          · exact .inl h
          · exact .inr ⟨d, hd, e1, by rw [g1 _ (by have := rk d hd; rw [e1] at this; omega)]; exact e2⟩
      · rw [g1 x (by omega)]; exact f4 x (by omega)
  obtain ⟨F, f1, f2, f3, _⟩ := go n
  exact ⟨F, hp, rk, rn, fun x _ => f1 x, fun d hd => f2 d hd (rn _ (hp d hd).1), fun x _ => f3 x⟩
end
/-- one column moved, all that ways lead to moved along -/
theorem way_rz {n : Nat} {dms : List Dm} {L : Nat → Int} {W : Nat → Option Int} {r : Nat → Nat} {p : Nat} {c : Int} (X : Rz n dms (fun _ => 1) L) (Y : Fix n dms (putF (fun _ => none) p (some 0)) W r) (hp : p < n) (hc : L p ≤ c) : Rz n dms (putI L p c) (wayI L W c) := by
  have w0 : ∃ v, W p = some v ∧ 0 ≤ v := by
    have := Y.lo p hp
    rw [show putF (fun _ => none) p (some (0 : Int)) p = some 0 from if_pos rfl] at this
    exact this 0 rfl
  have atW : ∀ x v, W x = some v → wayI L W c x = if c + v > L x then c + v else L x := fun x v h => by unfold wayI; rw [h]
  have atN : ∀ x, W x = none → wayI L W c x = L x := fun x h => by unfold wayI; rw [h]
  have pI : ∀ x, x ≠ p → putI L p c x = L x := fun x h => if_neg h
  have pP : putI L p c p = c := if_pos rfl
  have up : ∀ d ∈ dms, wayI L W c d.2.1 + d.2.2 ≤ wayI L W c d.1 := fun d hd => by
    have h1 := X.up d hd
    have h2 := Y.up d hd
    cases hy : W d.2.1 with
    | none =>
      rw [atN _ hy]
      cases hx : W d.1 with
      | none => rw [atN _ hx]; exact h1
      | some u => rw [atW _ _ hx]; split <;> omega
    | some v =>
      rw [hy] at h2
      obtain ⟨u, hu, h3⟩ := h2 (v + d.2.2) rfl
      rw [atW _ _ hy, atW _ _ hu]
      split <;> split <;> omega
  refine ⟨fun x hx => ?_, up, fun x hx => ?_⟩
  · by_cases e : x = p
    · subst e
      obtain ⟨v, hv, h0⟩ := w0
      rw [pP, atW _ _ hv]
      split <;> omega
    · rw [pI x e]
      cases hx : W x with
      | none => rw [atN _ hx]; exact Int.le_refl _
      | some v => rw [atW _ _ hx]; split <;> omega
  · cases hW : W x with
    | none =>
      have e : x ≠ p := fun e => by
        obtain ⟨v, hv, _⟩ := w0
        rw [e, hv] at hW
        cases hW
      exact .inl (by rw [atN _ hW, pI x e])
    | some u =>
      by_cases big : c + u > L x
      · have e1 : wayI L W c x = c + u := by rw [atW _ _ hW, if_pos big]
        rcases Y.by_ x hx with h | ⟨d, hd, h1, h2⟩
        · by_cases e : x = p
          · subst e
            rw [hW, show putF (fun _ => none) x (some (0 : Int)) x = some 0 from if_pos rfl] at h
            cases h
            exact .inl (by rw [e1, pP]; omega)
          · rw [hW, show putF (fun _ => none) p (some (0 : Int)) x = none from if_neg e] at h
            cases h
        · refine .inr ⟨d, hd, h1, ?_⟩
          rw [hW] at h2
          cases hy : W d.2.1 with
          | none => rw [hy] at h2; cases h2
          | some v =>
            rw [hy] at h2
            have h2 : some u = some (v + d.2.2) := h2
            cases h2
            have h3 := up d hd
            rw [h1, e1] at h3
            rw [e1]
            have h4 : c + v ≤ wayI L W c d.2.1 := by rw [atW _ _ hy]; split <;> omega
            omega
      · have e1 : wayI L W c x = L x := by rw [atW _ _ hW, if_neg big]
        by_cases e : x = p
        · subst e
          obtain ⟨v, hv, h0⟩ := w0
          rw [hW] at hv
          cases hv
          exact .inl (by rw [e1, pP]; omega)
        · exact .inl (by rw [e1, pI x e])
/-- least and onward never come beyond the end -/
theorem fits {n : Nat} {dms : List Dm} {L O : Nat → Int} {r' : Nat → Nat} {m : Int} (X : Rz n dms (fun _ => 1) L) (Y : Rz n (turnD dms) (fun _ => 0) O) (hp : ∀ d ∈ dms, d.1 < n ∧ d.2.1 < n) (rk : ∀ d ∈ turnD dms, r' d.2.1 < r' d.1) (hm : ∀ x, x < n → L x ≤ m) : ∀ x, x < n → L x + O x ≤ m := by
  have go : ∀ k x, r' x < k → x < n → L x + O x ≤ m := by
    intro k
    induction k with
    | zero => intro x h; exact absurd h (Nat.not_lt_zero _)
    | succ k ih =>
      intro x hx hn
      rcases Y.by_ x hn with h | ⟨d, hd, h1, h2⟩
      · have := hm x hn
        omega
      · have h3 := rk d hd
        obtain ⟨e, he, rfl⟩ := List.mem_map.mp hd
        simp only at h1 h2 h3
        subst h1
        have h4 := ih e.1 (by omega) (hp e he).1
        have h5 := X.up e he
        omega
  exact fun x hx => go _ x (Nat.lt_succ_self _) hx
/-! ### what is shown is small -/
theorem ok_ints {l : List Int} (h : ∀ a ∈ l, 0 ≤ a ∧ a < 10 ^ 12) : okAll (intsD l) = true := okAll_of fun x hx => by
  obtain ⟨a, ha, rfl⟩ := List.mem_map.mp hx
  have := h a ha
  simp [okD]
  omega
theorem dep_ints : ∀ l : List Int, PyData.depthAll (intsD l) = 0
  | [] => by simp [PyData.depthAll]
  | a :: l => by simp only [intsD, List.map_cons, PyData.depthAll, PyData.depth]; have := dep_ints l; simp only [intsD] at this; rw [this]; rfl
theorem blk_ints : ∀ l : List Int, PyData.bulkAll (intsD l) = l.length
  | [] => by simp [PyData.bulkAll]
  | a :: l => by
    have := blk_ints l
    simp only [intsD] at this
    simp only [intsD, List.map_cons, PyData.bulkAll, PyData.bulk, List.length_cons, this]; omega
/-- a flat row -/
structure Fl (d : PyData) (k : Nat) : Prop where
  ok : okD d = true
  dep : d.depth ≤ 1
  blk : d.bulk ≤ k
theorem fl_ints {l : List Int} {k : Nat} (h : ∀ a ∈ l, 0 ≤ a ∧ a < 10 ^ 12) (hk : l.length ≤ k) : Fl (.tuple (intsD l)) k :=
  ⟨by simpa [okD] using ok_ints h, by simp only [PyData.depth, dep_ints]; omega, by simp only [PyData.bulk, blk_ints]; exact hk⟩
theorem fl_nats {l : List Nat} {k : Nat} (h : ∀ a ∈ l, a < 10 ^ 12) (hk : l.length ≤ k) : Fl (.tuple (natsD l)) k := by
  have e : natsD l = intsD (l.map fun (a : Nat) => (a : Int)) := by simp [natsD, intsD]
  rw [e]
  refine fl_ints (fun a ha => ?_) (by simpa using hk)
  obtain ⟨b, hb, rfl⟩ := List.mem_map.mp ha
  have := h b hb
  omega
theorem fl_bool {b : Bool} {k : Nat} : Fl (.bool b) k := ⟨rfl, by simp [PyData.depth], by simp [PyData.bulk]⟩
theorem Fl.pl {d : PyData} (h : Fl d 5000) : Pl d := ⟨h.ok, by have := h.dep; omega, by have := h.blk; omega⟩
theorem pl_pair {a b : PyData} (ha : Fl a 5000) (hb : Fl b 5000) : Pl (.tuple [a, b]) := by
  have h1 := ha.dep
  have h2 := hb.dep
  have h3 := ha.blk
  have h4 := hb.blk
  refine ⟨by simp [okD, okAll, ha.ok, hb.ok], ?_, ?_⟩
  · simp only [PyData.depth, PyData.depthAll]; omega
  · simp only [PyData.bulk, PyData.bulkAll]; omega
/-- columns that meet all demands -/
structure Sol (n : Nat) (dms : List Dm) (F : Nat → Int) : Prop where
  pos : ∀ x, x < n → 1 ≤ F x
  top : ∀ x, x < n → F x < 10 ^ 12
  met : ∀ d ∈ dms, F d.2.1 + d.2.2 ≤ F d.1
theorem getI {n k : Nat} {F : Nat → Int} (h : k < n) : (listI n F).getD k 0 = F k := by simp [List.getD, h]
theorem Sol.cols {n : Nat} {dms : List Dm} {F : Nat → Int} (S : Sol n dms F) : Cols n (listI n F) := ⟨by simp, fun c hc => by
  obtain ⟨x, hx, rfl⟩ := List.mem_map.mp hc
  exact S.pos x (List.mem_range.mp hx)⟩
theorem Sol.all {n : Nat} {dms : List Dm} {F : Nat → Int} (S : Sol n dms F) (hp : ∀ d ∈ dms, d.1 < n ∧ d.2.1 < n) : dms.all (metB (listI n F)) = true := by
  refine List.all_eq_true.mpr fun d hd => ?_
  obtain ⟨h1, h2⟩ := hp d hd
  have := S.met d hd
  show decide ((listI n F).getD d.2.1 0 + d.2.2 ≤ (listI n F).getD d.1 0) = true
  rw [getI h1, getI h2]
  exact decide_eq_true this
theorem brk_nil {cs : List Int} {dms : List Dm} (h : dms.all (metB cs) = true) : brk cs dms = [] := by
  unfold brk
  have : dms.zipIdx.filter (fun x => !metB cs x.1) = [] := List.filter_eq_nil_iff.mpr fun x hx => by
    have := List.all_eq_true.mp h x.1 (List.mem_of_getElem? (mem_zipIdx' hx))
    simp only [this]; decide
  rw [this]; rfl
theorem brk_all {cs : List Int} {dms : List Dm} (h : brk cs dms = []) : dms.all (metB cs) = true := by
  refine List.all_eq_true.mpr fun d hd => ?_
  obtain ⟨i, hi⟩ := List.mem_iff_getElem?.mp hd
  unfold brk at h
  have h := List.filter_eq_nil_iff.mp (List.map_eq_nil_iff.mp h) (d, i) (List.mem_zipIdx_iff_getElem?.mpr hi)
  simpa using h
theorem Sol.min {n : Nat} {dms : List Dm} {F G : Nat → Int} (S : Sol n dms F) (T : Sol n dms G) : Sol n dms fun x => if G x < F x then G x else F x :=
  ⟨fun x hx => by have := S.pos x hx; have := T.pos x hx; split <;> omega, fun x hx => by have := S.top x hx; have := T.top x hx; split <;> omega, fun d hd => by have := S.met d hd; have := T.met d hd; split <;> split <;> omega⟩
theorem Sol.max {n : Nat} {dms : List Dm} {F G : Nat → Int} (S : Sol n dms F) (T : Sol n dms G) : Sol n dms fun x => if G x > F x then G x else F x :=
  ⟨fun x hx => by have := S.pos x hx; have := T.pos x hx; split <;> omega, fun x hx => by have := S.top x hx; have := T.top x hx; split <;> omega, fun d hd => by have := S.met d hd; have := T.met d hd; split <;> split <;> omega⟩
/-- what is known of a drawn thing -/
structure Bt (n : Nat) (dms : List Dm) (layers : List (List Nat)) (L O : Nat → Int) (m : Int) : Prop where
  Y : LayOk n dms layers
  X : Rz n dms (fun _ => 1) L
  Z : Rz n (turnD dms) (fun _ => 0) O
  top : ∀ x, x < n → L x ≤ m
  is : ∃ x, x < n ∧ L x = m
section
variable {n : Nat} {dms : List Dm} {layers : List (List Nat)} {L O : Nat → Int} {m : Int}
theorem LayOk.pl (Y : LayOk n dms layers) : ∀ d ∈ dms, d.1 < n ∧ d.2.1 < n := fun d hd => ⟨(Y.good d hd).1, (Y.good d hd).2.1⟩
theorem LayOk.tpl (Y : LayOk n dms layers) : ∀ d ∈ turnD dms, d.1 < n ∧ d.2.1 < n := fun d hd => by
  obtain ⟨e, he, rfl⟩ := List.mem_map.mp hd
  exact ⟨(Y.good e he).2.1, (Y.good e he).1⟩
theorem LayOk.gd (Y : LayOk n dms layers) : Good n dms := ⟨Y.lo, by have := Y.hi; omega, Y.len, Y.good⟩
theorem LayOk.rk (Y : LayOk n dms layers) : (∀ d ∈ dms, layers.flatten.idxOf d.2.1 < layers.flatten.idxOf d.1) ∧ ∀ x, x < n → layers.flatten.idxOf x < n := rank_of Y.perm Y.topo Y.pl
theorem LayOk.rk' (Y : LayOk n dms layers) : (∀ d ∈ turnD dms, layers.reverse.flatten.idxOf d.2.1 < layers.reverse.flatten.idxOf d.1) ∧ ∀ x, x < n → layers.reverse.flatten.idxOf x < n := rank_of Y.rperm Y.back Y.tpl
theorem Bt.fix (B : Bt n dms layers L O m) : FixI n dms 1 L (layers.flatten.idxOf ·) := Fix.of_rz B.X B.Y.pl B.Y.rk.1 B.Y.rk.2
theorem Bt.fix' (B : Bt n dms layers L O m) : FixI n (turnD dms) 0 O (layers.reverse.flatten.idxOf ·) := Fix.of_rz B.Z B.Y.tpl B.Y.rk'.1 B.Y.rk'.2
theorem LayOk.le {beg G : Nat → Int} {b : Int} (Y : LayOk n dms layers) (X : Rz n dms beg G) (h : ∀ x, x < n → beg x ≤ b) : ∀ x, x < n → G x ≤ b + 400000 := fun x hx => by
  have h1 := X.bound (r := (layers.flatten.idxOf ·)) Y.pl (fun d hd => (Y.good d hd).2.2.2) Y.rk.1 h x hx
  have h2 := Y.rk.2 x hx
  have h3 := Y.hi
  omega
theorem Bt.fits (B : Bt n dms layers L O m) : ∀ x, x < n → L x + O x ≤ m := Z.fits (r' := (layers.reverse.flatten.idxOf ·)) B.X B.Z B.Y.pl B.Y.rk'.1 B.top
theorem Bt.m_le (B : Bt n dms layers L O m) : 1 ≤ m ∧ m ≤ 400001 := by
  obtain ⟨x, hx, e⟩ := B.is
  have h1 := B.X.lo x hx
  have h2 := B.Y.le B.X (b := 1) (fun _ _ => Int.le_refl _) x hx
  omega
theorem Bt.least (B : Bt n dms layers L O m) : Sol n dms L := ⟨fun x hx => B.X.lo x hx, fun x hx => by have := B.top x hx; have := B.m_le; omega, B.X.up⟩
theorem Bt.great (B : Bt n dms layers L O m) {wd : Int} (h : m ≤ wd) (h2 : wd ≤ 1000000) : Sol n dms fun x => wd - O x := by
  refine ⟨fun x hx => ?_, fun x hx => ?_, fun d hd => ?_⟩
  · have h3 := B.fits x hx
    have h4 := B.X.lo x hx
    omega
  · have := B.Z.lo x hx
    omega
  · have := B.Z.up (d.2.1, d.1, d.2.2) (List.mem_map.mpr ⟨d, hd, rfl⟩)
    simp only at this
    omega
end
abbrev P__law_is_between (ds : List PyData) (Φ : Rv → Prop) : Prop := ∃ (n : Nat) (dms : List Dm) (layers : List (List Nat)), ds = [.list (dmsD dms), .list (layD layers)] ∧ LayOk n dms layers ∧ Φ (.dat (.bool true))
theorem len__law_is_between (ds : List PyData) (Φ : Rv → Prop) (h : P__law_is_between ds Φ) : ds.length = 2 := by obtain ⟨_, _, _, rfl, _⟩ := h; rfl
theorem rep_ints {n : Nat} {v : Int} : List.replicate n (PyData.int v) = intsD (listI n fun _ => v) := by
  rw [← tabD_ints, tabD_rep]; rfl
theorem lens_nat {layers : List (List Nat)} : (layers.map fun l => ((l.length : Nat) : Int)).sum = (layers.flatten.length : Nat) := by
  rw [List.length_flatten, ← sum_nat, List.map_map]; rfl
abbrev G0 (s : Addr) (n : Nat) (dms : List Dm) (layers : List (List Nat)) (x7 x8 x9 x10 x11 x12 x13 x14 x15 x16 x17 x18 x19 x20 x21 x22 x23 x24 x25 x26 x27 x28 x29 x30 x31 : Sl) : List Sl :=
  [.own s .strm, .dat (.list (dmsD dms)), .dat (.list (layD layers)), .dat (.int n), .dat (.tuple (dmsD dms)), .dat (.list (toD n dms)), .dat (.list (toD n (turnD dms))), x7, x8, x9, x10, x11, x12, x13, x14, x15, x16, x17, x18, x19, x20, x21, x22, x23, x24, x25, x26, x27, x28, x29, x30, x31]
abbrev tI (n : Nat) (F : Nat → Int) : PyData := .tuple (intsD (listI n F))
theorem lay_nats : ∀ l : List Nat, PyData.canLayAll0 (natsD l) = true
  | [] => by simp [natsD, PyData.canLayAll0]
  | a :: l => by have := lay_nats l; simp only [natsD] at this; simp [natsD, PyData.canLayAll0, PyData.canLay0, this]
theorem dep_nats (l : List Nat) : PyData.depthAll (natsD l) = 0 := by
  have := dep_ints (l.map fun (a : Nat) => (a : Int))
  rwa [show intsD (l.map fun (a : Nat) => (a : Int)) = natsD l by simp [natsD, intsD]] at this
theorem sh_nats (l : List Nat) : SeqAt.shaped (.list (natsD l)) = true ∧ SeqAt.shaped (.tuple (natsD l)) = true := by
  have h1 := lay_nats l
  have h2 := dep_nats l
  constructor <;> simp [SeqAt.shaped, PyData.canLay0, PyData.depth, h1, h2]
theorem eqv_nats : ∀ l : List Nat, PyData.eqvAll (natsD l) (natsD l) = true
  | [] => by simp [natsD, PyData.eqvAll]
  | a :: l => by
    have := eqv_nats l
    simp only [natsD] at this
    simp only [natsD, List.map_cons, PyData.eqvAll, this, Bool.and_true]
    rw [eqv_int]; simp
theorem eqv_natsL (l : List Nat) : PyData.eqv (.list (natsD l)) (.list (natsD l)) = true := by
  have := eqv_nats l
  first | exact this | simpa [PyData.eqv] using this
theorem eqv_nil (l : List Nat) : PyData.eqv (.tuple (natsD l)) (.tuple []) = l.isEmpty := by
  cases l <;> first | rfl | simp [natsD, PyData.eqv, PyData.eqvAll]
theorem brk_emp {cs : List Int} {dms : List Dm} : (brk cs dms).isEmpty = dms.all (metB cs) := by
  cases h : dms.all (metB cs) with
  | true => rw [brk_nil h]; rfl
  | false =>
    cases h2 : brk cs dms with
    | nil => rw [brk_all h2] at h; cases h
    | cons _ _ => rfl
theorem brk_lt {cs : List Int} {dms : List Dm} : (brk cs dms).length ≤ dms.length ∧ ∀ a ∈ brk cs dms, a < dms.length := by
  unfold brk
  constructor
  · rw [List.length_map]
    refine Nat.le_trans (List.length_filter_le _ _) ?_
    rw [List.length_zipIdx]; exact Nat.le_refl _
  · intro a ha
    obtain ⟨x, hx, rfl⟩ := List.mem_map.mp ha
    exact (List.getElem?_eq_some_iff.mp (mem_zipIdx' (List.mem_filter.mp hx).1)).1
def t__law_is_between (K : PySem.W.Frag) : TS :=
  (tSeq (tPar 3 4 (tCons (tCB (rSum K) (tCons (tLc (iList K (tVar 2)) (gName 21) tYes (tCB (rLenQ K) (tCons (tVar 21) tNil)) [21]) tNil)) (tCons (tCB (rTupleQ K) (tCons (tVar 1) tNil)) tNil)))
  (tSeq (tAsg (tCall (spZ K false P__law_behind) [] E0 (tCons (tVar 1) (tCons (tVar 3) tNil))) (gTup K 2 (gCons (gName 5) (gCons (gName 6) gNil))))
  (tSeq (tAsg (tTup (tCons (tCB (rTupleQ K) (tCons (tCall (spZ K false P__law_raised) [] E0 (tCons (tVar 2) (tCons (tVar 5) (tCons (tOp rRep (tLst (tCons (tC (.int 1)) tNil)) (tVar 3)) tNil)))) tNil)) (tCons (tCall (spZ K false P__law_onward) [] E0 (tCons (tVar 2) (tCons (tVar 6) (tCons (tVar 3) tNil)))) tNil))) (gTup K 2 (gCons (gName 7) (gCons (gName 8) gNil))))
  (tSeq (tAsg (tCB (rMaxT K) (tCons (tVar 7) tNil)) (gName 9))
  (tSeq (tAsg (tOp rAddI (tVar 9) (tCall (spZ K true P__law_pick) [] E0 (tCons (tVar 0) (tCons (tLst (tCons (tC (.int 0)) (tCons (tC (.int 0)) (tCons (tC (.int 1)) (tCons (tC (.int 30)) tNil))))) tNil)))) (gName 10))
  (tSeq (tAsg (tCB (rTupleQ K) (tCons (tLc (iList K (tVar 8)) (gName 28) tYes (tOp rSubI (tVar 10) (tVar 28)) [28]) tNil)) (gName 11))
  (tSeq (tIfS (tNot (tB (tCall (spZ K false P__law_same) [] E0 (tCons (tTup (tCons (tCall (spZ K false P_least_columns) [] E0 (tCons (tVar 3) (tCons (tVar 4) tNil))) (tCons (tCall (spZ K false P_greatest_columns) [] E0 (tCons (tVar 3) (tCons (tVar 4) (tCons (tVar 10) tNil)))) tNil))) (tCons (tTup (tCons (tVar 7) (tCons (tVar 11) tNil))) tNil))))) (tRet (tC (.bl false))) tNext)
  (tSeq (tIfS (tAnd (tTest (tOp rGtI (tVar 9) (tC (.int 1)))) (tTest (tOp rNotN (tCall (spZ K false P_greatest_columns) [] E0 (tCons (tVar 3) (tCons (tVar 4) (tCons (tOp rSubI (tVar 9) (tC (.int 1))) tNil)))) (tC .non)))) (tRet (tC (.bl false))) tNext)
  (tSeq (tAsg (tLc (iRng1 (tCons (tVar 3) tNil)) (gName 15) (tTest (tOp (rEqD K) (tOp rAddI (tOp (rIx K) (tVar 7) (tVar 15)) (tOp (rIx K) (tVar 8) (tVar 15))) (tVar 9))) (tVar 15) [15]) (gName 12))
  (tSeq (tIfS (tAnd (tTest (tOp (rEqD K) (tVar 10) (tVar 9))) (tTest (tOp (rNeD K) (tLc (iRng1 (tCons (tVar 3) tNil)) (gName 15) (tTest (tOp (rEqD K) (tOp (rIx K) (tVar 7) (tVar 15)) (tOp (rIx K) (tVar 11) (tVar 15)))) (tVar 15) [15]) (tVar 12)))) (tRet (tC (.bl false))) tNext)
  (tSeq (tAsg (tLst (tCons (tVar 7) (tCons (tVar 11) tNil))) (gName 13))
  (tSeq (tFor (iRng1 (tCons (tC (.int 2)) tNil)) (gName 14) (tSeq (tAsg (tCall (spZ K true P__law_next) [] E0 (tCons (tVar 0) (tCons (tVar 3) tNil))) (gName 15))
  (tSeq (tAsg (tOp rAddI (tOp (rIx K) (tVar 7) (tVar 15)) (tCall (spZ K true P__law_pick) [] E0 (tCons (tVar 0) (tCons (tLst (tCons (tC (.int 0)) (tCons (tC (.int 1)) (tCons (tC (.int 2)) (tCons (tC (.int 50)) (tCons (tC (.int 1000)) tNil)))))) tNil)))) (gName 16))
  (tSeq (tAsg (tCB (rListQ K) (tCons (tVar 7) tNil)) (gName 17))
  (tSeq (tAsg (tVar 16) (gSub (tVar 17) (tVar 15) rSetL))
  (tSeq (tAsg (tCB (rTupleQ K) (tCons (tCall (spZ K false P__law_raised) [] E0 (tCons (tVar 2) (tCons (tVar 5) (tCons (tVar 17) tNil)))) tNil)) (gName 18))
  (tSeq (tAsg (tCall (spZ K false P_columns_with) [] E0 (tCons (tVar 3) (tCons (tVar 4) (tCons (tVar 15) (tCons (tVar 16) tNil))))) (gName 19))
  (tSeq (tIfS (tOr (tNot (tB (tCall (spZ K false P__law_same) [] E0 (tCons (tVar 19) (tCons (tVar 18) tNil))))) (tAnd (tTest (tOp rGtI (tOp (rIx K) (tVar 7) (tVar 15)) (tC (.int 1)))) (tTest (tOp rNotN (tCall (spZ K false P_columns_with) [] E0 (tCons (tVar 3) (tCons (tVar 4) (tCons (tVar 15) (tCons (tOp rSubI (tOp (rIx K) (tVar 7) (tVar 15)) (tC (.int 1))) tNil))))) (tC .non))))) (tRet (tC (.bl false))) tNext)
  (tSeq (tAsg (tDisp [((tVar 15), (tC (.bl true)))]) (gName 20))
  (tSeq (tFor (iList K (tVar 2)) (gName 21) (tFor (iList K (tVar 21)) (gName 22) (tIfS (tB (tCB (rAny K) (tCons (tLc (iList K (tOp (rIx K) (tVar 5) (tVar 22))) (gTup K 2 (gCons (gName 29) (gCons (gName 30) gNil))) tYes (tDIn (tVar 29) (tVar 20)) [29, 30]) tNil))) (sDPut (tVar 20) (tVar 22) (tC (.bl true))) tNext)))
  (tSeq (tIfS (tB (tCB (rAny K) (tCons (tLc (iRng1 (tCons (tVar 3) tNil)) (gName 31) tYes (tAndV (tOp (rNeD K) (tOp (rIx K) (tVar 18) (tVar 31)) (tOp (rIx K) (tVar 7) (tVar 31))) (tDNotIn (tVar 31) (tVar 20))) [31]) tNil))) (tRet (tC (.bl false))) tNext)
  (tDrop (tBM K "list" rAppend (tVar 13) (tCons (tVar 18) tNil))))))))))))))
  (tSeq (tAsg (tTup (tCons (tCall (spZ K true P__law_pick) [] E0 (tCons (tVar 0) (tCons (tVar 13) tNil))) (tCons (tCall (spZ K true P__law_pick) [] E0 (tCons (tVar 0) (tCons (tVar 13) tNil))) tNil))) (gTup K 2 (gCons (gName 23) (gCons (gName 24) gNil))))
  (tSeq (tFor (iList K (tLst (tCons (tCB (rTupleQ K) (tCons (tLc (iRng1 (tCons (tVar 3) tNil)) (gName 31) tYes (tCB rMin2Q (tCons (tOp (rIx K) (tVar 23) (tVar 31)) (tCons (tOp (rIx K) (tVar 24) (tVar 31)) tNil))) [31]) tNil)) (tCons (tCB (rTupleQ K) (tCons (tLc (iRng1 (tCons (tVar 3) tNil)) (gName 31) tYes (tCB rMax2Q (tCons (tOp (rIx K) (tVar 23) (tVar 31)) (tCons (tOp (rIx K) (tVar 24) (tVar 31)) tNil))) [31]) tNil)) tNil)))) (gName 25) (tIfS (tOr (tTest (tOp rNotB (tCall (spZ K false P_meets) [] E0 (tCons (tVar 3) (tCons (tVar 4) (tCons (tVar 25) tNil)))) (tC (.bl true)))) (tNot (tB (tCall (spZ K false P__law_same) [] E0 (tCons (tCall (spZ K false P_broken_demands) [] E0 (tCons (tVar 3) (tCons (tVar 4) (tCons (tVar 25) tNil)))) (tCons (tTup tNil) tNil)))))) (tRet (tC (.bl false))) tNext))
  (tSeq (tAsg (tCB (rTupleQ K) (tCons (tLc (iRng1 (tCons (tVar 3) tNil)) (gName 31) tYes (tCall (spZ K true P__law_pick) [] E0 (tCons (tVar 0) (tCons (tLst (tCons (tOp (rIx K) (tVar 7) (tVar 31)) (tCons (tOp (rIx K) (tVar 11) (tVar 31)) (tCons (tCB rMax2Q (tCons (tC (.int 1)) (tCons (tOp rSubI (tOp (rIx K) (tVar 7) (tVar 31)) (tCB rIntQ (tCons (tOp (rEqD K) (tCall (spZ K true P__law_next) [] E0 (tCons (tVar 0) (tCons (tC (.int 9)) tNil))) (tC (.int 0))) tNil))) tNil))) tNil)))) tNil))) [31]) tNil)) (gName 26))
  (tSeq (tAsg (tCall (spZ K false P__law_broken) [] E0 (tCons (tVar 26) (tCons (tVar 4) tNil))) (gName 27))
  (tRet (tCall (spZ K false P__law_same) [] E0 (tCons (tTup (tCons (tCall (spZ K false P_broken_demands) [] E0 (tCons (tVar 3) (tCons (tVar 4) (tCons (tVar 26) tNil)))) (tCons (tCall (spZ K false P_meets) [] E0 (tCons (tVar 3) (tCons (tVar 4) (tCons (tVar 26) tNil)))) tNil))) (tCons (tTup (tCons (tVar 27) (tCons (tOp (rEqD K) (tVar 27) (tTup tNil)) tNil))) tNil))))))))))))))))))))
theorem W__law_is_between (K : PySem.W.Frag) (ds : List PyData) (Φ : Rv → Prop) (s : Addr) (p : P__law_is_between ds Φ) : Wz K (t__law_is_between K) true s ds 29 Φ := by
  obtain ⟨n, dms, layers, rfl, Y, q⟩ := p
  have hz : sizeLine = 16777216 := sizeLine_eq
  have n1 := Y.lo
  have n2 := Y.hi
  have dl := Y.len
  have fl : layers.flatten.length = n := by rw [Y.perm.length_eq, List.length_range]
  show Ws K _ [.own s .strm, .dat (.list (dmsD dms)), .dat (.list (layD layers)), .un, .un, .un, .un, .un, .un, .un, .un, .un, .un, .un, .un, .un, .un, .un, .un, .un, .un, .un, .un, .un, .un, .un, .un, .un, .un, .un, .un, .un] _ _ _ _
  unfold t__law_is_between
  refine ws_seq (ws_parM (wam_cons (wm_d (wd_sum (wr_d (wd_f (wf_mapL (List Nat) (by walk_at "v") ?_)))))))
  walk_at "z"
  refine ⟨layers, fun l => .list (natsD l), fun l => .int (l.length : Nat), rfl, ?_, fun l hl => ?_, ?_⟩
  · have := Y.ll
    omega
  · walk_at "z"
    simp
  refine ⟨_, rfl, layers.map fun l => ((l.length : Nat) : Int), by simp, ?_⟩
  rw [lens_nat, fl]
  walk_at "z"
  refine ⟨_, .inl rfl, wam_nil ⟨_, _, rfl, ?_⟩⟩
  refine ws_seq (ws_asg ?_)
  walk_at "z"
  refine ⟨n, dms, rfl, by omega, dl, Y.pl, _, rfl, ?_⟩
  walk_at "z"
  refine ws_seq (ws_asg ?_)
  walk_at "z"
  refine ⟨by omega, by omega, _, rfl, ?_⟩
  rw [show ((n : Int).toNat) = n from Int.toNat_natCast n, rep_ints]
  refine wa_nil ⟨n, dms, layers, fun _ => 1, rfl, by omega, dl, Y.pl, Y.perm, Y.topo, fun L X => ?_⟩
  walk_at "z"
  refine ⟨_, .inl rfl, ?_⟩
  walk_at "z"
  refine ⟨by omega, by simpa [turnD] using dl, Y.tpl, Y.rperm, Y.back, fun O Z => ?_⟩
  walk_at "z"
  show Ws K _ (G0 s n dms layers (.dat (tI n L)) (.dat (.list (intsD (listI n O)))) .un .un .un .un .un .un .un .un .un .un .un .un .un .un .un .un .un .un .un .un .un .un .un) _ _ _ _
  refine ws_seq (ws_set ?_)
  walk_at "z"
  have hne : listI n L ≠ [] := by
    intro z
    have := congrArg List.length z
    simp at this
    omega
  refine ⟨hne, ?_⟩
  generalize hm : maxI (listI n L) = m
  have B : Bt n dms layers L O m := by
    refine ⟨Y, X, Z, fun x hx => ?_, ?_⟩
    · rw [← hm]; exact maxI_ge (List.mem_map.mpr ⟨x, List.mem_range.mpr hx, rfl⟩)
    · obtain ⟨x, hx, e⟩ := List.mem_map.mp (maxI_mem hne)
      exact ⟨x, List.mem_range.mp hx, by rw [e, hm]⟩
  have hm1 := B.m_le
  refine ws_seq (ws_set ?_)
  walk_at "z"
  refine ⟨by simp, by simp, fun v hv => ⟨_, rfl, ?_⟩⟩
  obtain ⟨v, rfl, v1, v2⟩ : ∃ u : Int, v = .int u ∧ 0 ≤ u ∧ u ≤ 30 := by
    simp at hv
    rcases hv with rfl | rfl | rfl
    · exact ⟨_, rfl, by decide, by decide⟩
    · exact ⟨_, rfl, by decide, by decide⟩
    · exact ⟨_, rfl, by decide, by decide⟩
  walk_at "z"
  generalize hwd : m + v = wd
  have w1 : m ≤ wd := by omega
  have w2 : wd ≤ 1000000 := by omega
  refine ws_seq (ws_set ?_)
  walk_at "z"
  refine wd_f (wf_mapL Int (by walk_at "v") ?_)
  walk_at "z"
  refine ⟨listI n O, .int, fun a => .int (wd - a), rfl, sl24 (by simp; omega), fun a ha => ?_, ?_⟩
  · walk_at "z"
    rfl
  refine ⟨_, rfl, _, .inl rfl, ?_⟩
  rw [show ((listI n O).map fun a => PyData.int (wd - a)) = intsD (listI n fun x => wd - O x) by simp [intsD, listI]]
  show Ws K _ (G0 s n dms layers (.dat (tI n L)) (.dat (.list (intsD (listI n O)))) (.dat (.int m)) (.dat (.int wd)) (.dat (tI n fun x => wd - O x)) .un .un .un .un .un .un .un .un .un .un .un .un .un .un .un .un .un .un .un .un) _ _ _ _
  have SL := B.least
  have SG := B.great w1 w2
  have flS : ∀ {F : Nat → Int}, Sol n dms F → Fl (tI n F) 5000 := fun {F} S => fl_ints (fun a ha => by
    obtain ⟨x, hx, rfl⟩ := List.mem_map.mp ha
    have h1 := S.pos x (List.mem_range.mp hx)
    have h2 := S.top x (List.mem_range.mp hx)
    omega) (by simp; omega)
  refine ws_seq (ws_ifF ?_ (ws_next ?_))
  · walk_at "z"
    refine ⟨n, dms, L, _, rfl, Y.gd, B.fix, _, rfl, ?_⟩
    walk_at "z"
    refine ⟨n, dms, L, O, _, _, wd, rfl, Y.gd, by omega, w2, B.fix, B.fix', fun ⟨x, hx, h⟩ => absurd (B.top x hx) (by omega), fun _ => ⟨_, rfl, ?_⟩⟩
    walk_at "z"
    exact ⟨pl_pair (flS SL) (flS SG), _, rfl, _, rfl, rfl⟩
  obtain ⟨x0, hx0, e0⟩ := B.is
  refine ws_seq (ws_ifF ?_ (ws_next ?_))
  · walk_at "z"
    refine ⟨fun h => ?_, fun _ => rfl⟩
    have h := of_decide_eq_true h
    walk_at "z"
    refine ⟨n, dms, L, O, _, _, m - 1, rfl, Y.gd, by omega, by omega, B.fix, B.fix', fun _ => ⟨_, rfl, ?_⟩, fun h => absurd (h x0 hx0) (by omega)⟩
    walk_at "z"
    rfl
  refine ws_seq (ws_set (wd_f (wf_fmL Nat (by walk_at "v") ?_)))
  walk_at "z"
  refine ⟨by omega, by omega, ?_⟩
  refine ⟨List.range n, fun k => .int (k : Nat), fun x => decide (L x + O x = m), fun x => .int (x : Nat), by rw [Int.toNat_natCast]; exact rangeD_map, sl24 (by simp; omega), fun x hx => ?_, ?_⟩
  · have hx := List.mem_range.mp hx
    walk_at "z"
    refine ⟨_, _, _, .inr rfl, rfl, atI_nat (ints_at hx), ?_⟩
    walk_at "z"
    refine ⟨_, _, _, .inl rfl, rfl, atI_nat (ints_at hx), ?_⟩
    walk_at "z"
    refine ⟨rfl, rfl, _, rfl, eqv_int, fun _ => ?_⟩
    walk_at "z"
    rfl
  refine ⟨_, rfl, ?_⟩
  refine ws_seq (ws_ifF ?_ (ws_next ?_))
  · walk_at "z"
    refine ⟨rfl, rfl, _, rfl, ?_⟩
    rw [eqv_int]
    refine ⟨fun h => ?_, fun _ => rfl⟩
    have h := of_decide_eq_true h
    walk_at "z"
    refine wd_f (wf_fmL Nat (by walk_at "v") ?_)
    walk_at "z"
    refine ⟨by omega, by omega, ?_⟩
    refine ⟨List.range n, fun k => .int (k : Nat), fun x => decide (L x + O x = m), fun x => .int (x : Nat), by rw [Int.toNat_natCast]; exact rangeD_map, sl24 (by simp; omega), fun x hx => ?_, ?_⟩
    · have hx := List.mem_range.mp hx
      walk_at "z"
      refine ⟨_, _, _, .inr rfl, rfl, atI_nat (ints_at hx), ?_⟩
      walk_at "z"
      refine ⟨_, _, _, .inr rfl, rfl, atI_nat (ints_at hx), ?_⟩
      walk_at "z"
      refine ⟨rfl, rfl, _, rfl, ?_, fun _ => ?_⟩
      · rw [eqv_int]
        exact decide_eq_decide.mpr ⟨fun h => by omega, fun h => by omega⟩
      · walk_at "z"
        rfl
    · refine ⟨_, rfl, ?_⟩
      walk_at "z"
      have e := sh_nats ((List.range n).filter fun x => decide (L x + O x = m))
      refine ⟨e.1, e.1, _, rfl, ?_⟩
      have e2 := eqv_natsL ((List.range n).filter fun x => decide (L x + O x = m))
      simp only [natsD] at e2
      rw [e2]
      rfl
  generalize hT : PyData.list (((List.range n).filter fun x => decide (L x + O x = m)).map fun x => PyData.int (x : Nat)) = tight
  refine ws_seq (ws_setM ?_)
  walk_at "z"
  refine fun p1 => ?_
  show Ws K _ (G0 s n dms layers (.dat (tI n L)) (.dat (.list (intsD (listI n O)))) (.dat (.int m)) (.dat (.int wd)) (.dat (tI n fun x => wd - O x)) (.dat tight) (.own p1 (.lst [tI n L, tI n fun x => wd - O x])) .un .un .un .un .un .un .un .un .un .un .un .un .un .un .un .un .un .un) _ _ _ _
  refine ws_seq (ws_for ?_)
  walk_at "z"
  refine ⟨by decide, by decide, ?_⟩
  refine ⟨fun k Γ' => ∃ (rows : List PyData) (x14 x15 x16 x17 x18 x19 x20 x21 x22 x23 x24 x25 x26 x27 x28 x29 x30 x31 : Sl), Γ' = G0 s n dms layers (.dat (tI n L)) (.dat (.list (intsD (listI n O)))) (.dat (.int m)) (.dat (.int wd)) (.dat (tI n fun x => wd - O x)) (.dat tight) (.own p1 (.lst rows)) x14 x15 x16 x17 x18 x19 x20 x21 x22 x23 x24 x25 x26 x27 x28 x29 x30 x31 ∧ rows ≠ [] ∧ rows.length ≤ 2 + k ∧ ∀ d ∈ rows, ∃ F, Sol n dms F ∧ d = tI n F,
    ⟨[tI n L, tI n fun x => wd - O x], _, _, _, _, _, _, _, _, _, _, _, _, _, _, _, _, _, _, rfl, by simp, by simp, fun d hd => ?_⟩, fun k d Γ' hk hI => ?_, fun Γ' hI => ?_⟩
  · simp at hd
    rcases hd with rfl | rfl
    · exact ⟨L, SL, rfl⟩
    · exact ⟨_, SG, rfl⟩
  · obtain ⟨rows, x14, x15, x16, x17, x18, x19, x20, x21, x22, x23, x24, x25, x26, x27, x28, x29, x30, x31, rfl, r1, r2, r3⟩ := hI
    have hk2 : k < 2 := by
      have := (rangeD_get hk).1
      omega
    walk_at "z"
    refine ws_forget 29 (ws_forget 30 (ws_forget 31 ?_))
    refine ws_seq (ws_set ?_)
    walk_at "z"
    refine ⟨by omega, by omega, fun j0 j1 j2 => ⟨_, rfl, ?_⟩⟩
    obtain ⟨j, rfl⟩ : ∃ j : Nat, j0 = j := ⟨j0.toNat, by omega⟩
    have hj : j < n := by omega
    refine ws_seq (ws_set ?_)
    walk_at "z"
    refine ⟨_, _, _, .inr rfl, rfl, atI_nat (ints_at hj), ?_⟩
    walk_at "z"
    refine ⟨by simp, by simp, fun u hu => ⟨_, rfl, ?_⟩⟩
    obtain ⟨u, rfl, u1, u2⟩ : ∃ t : Int, u = .int t ∧ 0 ≤ t ∧ t ≤ 1000 := by
      simp at hu
      rcases hu with rfl | rfl | rfl | rfl | rfl
      · exact ⟨_, rfl, by decide, by decide⟩
      · exact ⟨_, rfl, by decide, by decide⟩
      · exact ⟨_, rfl, by decide, by decide⟩
      · exact ⟨_, rfl, by decide, by decide⟩
      · exact ⟨_, rfl, by decide, by decide⟩
    walk_at "z"
    have Lj := B.X.lo j hj
    have Lt := B.top j hj
    generalize hc : L j + u = c
    have c1 : L j ≤ c := by omega
    have c2 : c ≤ 500000 := by omega
    refine ws_seq (ws_setM ?_)
    walk_at "z"
    refine ⟨_, .inr rfl, fun p2 => ?_⟩
    refine ws_seq (ws_item (p := p2) rfl ?_)
    walk_at "z"
    refine ⟨_, _, rfl, by simp only [List.length_map, List.length_range]; exact ixN_nat hj, ?_⟩
    rw [listI_set hj]
    refine ws_frz 17 rfl ?_
    refine ws_seq (ws_set ?_)
    walk_at "z"
    refine ⟨n, dms, layers, putI L j c, rfl, by omega, dl, Y.pl, Y.perm, Y.topo, fun G XG => ⟨_, rfl, ?_⟩⟩
    walk_at "z"
    refine ⟨_, .inl rfl, ?_⟩
    obtain ⟨W, hW⟩ := fix_ex (n := n) (dms := dms) (vals := putF (fun _ => none) j (some 0)) Y.pl Y.rk.1 Y.rk.2
    have same : listI n (wayI L W c) = listI n G := List.map_congr_left fun x hx => Rz.uniq (r := (layers.flatten.idxOf ·)) (way_rz X hW hj c1) XG Y.pl Y.rk.1 x (List.mem_range.mp hx)
    have bg : ∀ x, x < n → L x ≤ putI L j c x ∧ putI L j c x ≤ 500000 := fun x hx => by
      have h1 := B.top x hx
      unfold putI
      split
      · rename_i e
        subst e
        omega
      · omega
    have lg : ∀ x, x < n → L x ≤ G x := fun x hx => Int.le_trans (bg x hx).1 (XG.lo x hx)
    have SGd : Sol n dms G := ⟨fun x hx => by have := lg x hx; have := B.X.lo x hx; omega, fun x hx => by have := Y.le XG (b := 500000) (fun y hy => (bg y hy).2) x hx; omega, XG.up⟩
    show Ws K _ (G0 s n dms layers (.dat (tI n L)) (.dat (.list (intsD (listI n O)))) (.dat (.int m)) (.dat (.int wd)) (.dat (tI n fun x => wd - O x)) (.dat tight) (.own p1 (.lst rows)) (.dat d) (.dat (.int (j : Nat))) (.dat (.int c)) (.dat (.list (intsD (listI n (putI L j c))))) (.dat (tI n G)) x19 x20 x21 x22 x23 x24 x25 x26 x27 x28 .un .un .un) _ _ _ _
    refine ws_seq (ws_set ?_)
    walk_at "z"
    refine ⟨n, dms, L, W, _, _, j, c, rfl, Y.gd, hj, by omega, by omega, B.fix, hW, fun h => absurd h (by omega), fun _ => ⟨_, rfl, ?_⟩⟩
    rw [same]
    refine ws_seq (ws_ifF ?_ (ws_next ?_))
    · walk_at "z"
      refine ⟨(flS SGd).pl, _, rfl, _, rfl, ?_⟩
      walk_at "z"
      refine ⟨_, _, _, .inr rfl, rfl, atI_nat (ints_at hj), ?_⟩
      walk_at "z"
      refine ⟨fun h => ?_, fun _ => rfl⟩
      have h := of_decide_eq_true h
      walk_at "z"
      refine ⟨_, _, _, .inr rfl, rfl, atI_nat (ints_at hj), ?_⟩
      walk_at "z"
      refine ⟨n, dms, L, W, _, _, j, L j - 1, rfl, Y.gd, hj, by omega, by omega, B.fix, hW, fun _ => ⟨_, rfl, ?_⟩, fun h => absurd h (by omega)⟩
      walk_at "z"
      rfl
    refine ws_seq (ws_setF (wf_disp1 ?_))
    walk_at "z"
    refine ⟨.inl (j : Int), rfl, fun p3 => ?_⟩
    have nd : layers.flatten.Nodup := Y.perm.nodup_iff.mpr List.nodup_range
    refine ws_seq (ws_for ?_)
    walk_at "z"
    refine ⟨fun k Γ' => ∃ (N : Nat) (f : Key → Option PyData) (x21 x22 : Sl), Γ' = G0 s n dms layers (.dat (tI n L)) (.dat (.list (intsD (listI n O)))) (.dat (.int m)) (.dat (.int wd)) (.dat (tI n fun x => wd - O x)) (.dat tight) (.own p1 (.lst rows)) (.dat d) (.dat (.int (j : Nat))) (.dat (.int c)) (.dat (.list (intsD (listI n (putI L j c))))) (.dat (tI n G)) (.dat (tI n G)) (.own p3 (.dk N f)) x21 x22 x23 x24 x25 x26 x27 x28 .un .un .un ∧ N ≤ 1 + (layers.take k).flatten.length ∧ (f (.inl (j : Int))).isSome = true ∧ ∀ x ∈ (layers.take k).flatten, G x ≠ L x → (f (.inl (x : Int))).isSome = true,
      ⟨1, _, _, _, rfl, by simp, by simp, fun x hx => (by simp at hx)⟩, fun k y Γ' hk hI => ?_, fun Γ' hI => ?_⟩
    · obtain ⟨N, f, x21, x22, rfl, f1, f2, f3⟩ := hI
      rw [List.getElem?_map, Option.map_eq_some_iff] at hk
      obtain ⟨l, hk, rfl⟩ := hk
      walk_at "z"
      refine ws_for ?_
      walk_at "z"
      refine ⟨fun i Γ' => ∃ (N : Nat) (f : Key → Option PyData) (x22 : Sl), Γ' = G0 s n dms layers (.dat (tI n L)) (.dat (.list (intsD (listI n O)))) (.dat (.int m)) (.dat (.int wd)) (.dat (tI n fun x => wd - O x)) (.dat tight) (.own p1 (.lst rows)) (.dat d) (.dat (.int (j : Nat))) (.dat (.int c)) (.dat (.list (intsD (listI n (putI L j c))))) (.dat (tI n G)) (.dat (tI n G)) (.own p3 (.dk N f)) (.dat (.list (natsD l))) x22 x23 x24 x25 x26 x27 x28 .un .un .un ∧ N ≤ 1 + ((layers.take k).flatten ++ l.take i).length ∧ (f (.inl (j : Int))).isSome = true ∧ ∀ x ∈ (layers.take k).flatten ++ l.take i, G x ≠ L x → (f (.inl (x : Int))).isSome = true,
        ⟨N, f, _, rfl, by simpa using f1, f2, by simpa using f3⟩, fun i y Γ' hi hI => ?_, fun Γ' hI => ?_⟩
      · obtain ⟨N, f, x22, rfl, f1, f2, f3⟩ := hI
        rw [List.getElem?_map, Option.map_eq_some_iff] at hi
        obtain ⟨x, hi, rfl⟩ := hi
        obtain ⟨t1, t2, t3, t4, t5⟩ := topo_next Y.topo hk hi
        have hx : x < n := List.mem_range.mp (Y.perm.mem_iff.mp t4)
        have fl2 : (dms.filter fun d => d.1 == x).length ≤ dms.length := List.length_filter_le _ _
        walk_at "z"
        refine ws_ifB (((dms.filter fun d => d.1 == x).map fun d => (f (.inl (d.2.1 : Int))).isSome).any id) ?_ (fun hb => ?_) fun hb => ws_next ⟨N, f, _, rfl, by rw [← t2, List.length_append]; omega, f2, fun z hz hne => ?_⟩
        · walk_at "z"
          refine wd_f (wf_mapL Dm (by walk_at "v") ?_)
          walk_at "z"
          refine ⟨_, _, _, .inl rfl, rfl, atI_nat (toD_at hx), ?_⟩
          walk_at "z"
          refine ⟨dms.filter fun d => d.1 == x, edD, fun d => .bool ((f (.inl (d.2.1 : Int))).isSome), rfl, sl24 (by omega), fun a ha => ?_, ?_⟩
          · walk_at "z"
            exact ⟨.inl (a.2.1 : Int), rfl, rfl⟩
          · exact ⟨_, rfl, (dms.filter fun d => d.1 == x).map fun d => (f (.inl (d.2.1 : Int))).isSome, by simp, _, rfl, rfl⟩
        · refine ws_dputK (p := p3) rfl (by omega) ?_
          walk_at "z"
          refine ⟨.inl (x : Int), rfl, N + 1, _, _, rfl, by rw [← t2, List.length_append, List.length_singleton]; omega, ?_, fun z hz hne => ?_⟩
          · show Option.isSome (if _ then _ else _) = true
            split
            · rfl
            · exact f2
          · show Option.isSome (if _ then _ else _) = true
            split
            · rfl
            · rename_i zne
              rw [← t2] at hz
              rcases List.mem_append.mp hz with hz | hz
              · exact f3 z hz hne
              · exact absurd (by rw [List.mem_singleton.mp hz]) zne
        · rw [← t2] at hz
          rcases List.mem_append.mp hz with hz | hz
          · exact f3 z hz hne
          · have e := List.mem_singleton.mp hz
            subst e
            rcases XG.by_ z hx with h | ⟨e, he, h3, h4⟩
            · by_cases zj : z = j
              · rw [zj]; exact f2
              · exact absurd (h.trans (if_neg zj)) hne
            · have h5 := t1 e he h3
              have h6 : G e.2.1 ≠ L e.2.1 := fun h7 => by
                have h8 := X.up e he
                have h9 := lg z hx
                rw [h3] at h8
                exact hne (by omega)
              have h7 := f3 _ h5 h6
              have h8 : ((dms.filter fun d => d.1 == z).map fun d => (f (.inl (d.2.1 : Int))).isSome).any id = true := List.any_eq_true.mpr ⟨_, List.mem_map.mpr ⟨e, List.mem_filter.mpr ⟨he, by simpa using h3⟩, rfl⟩, h7⟩
              rw [hb] at h8
              cases h8
      · obtain ⟨N, f, x22, rfl, f1, f2, f3⟩ := hI
        rw [List.length_map, List.take_length] at f1 f3
        refine ⟨N, f, _, _, rfl, ?_, f2, ?_⟩
        · rw [take_succ_get hk, List.flatten_append]
          simpa using f1
        · rw [take_succ_get hk, List.flatten_append]
          simpa using f3
    · obtain ⟨N, f, x21, x22, rfl, f1, f2, f3⟩ := hI
      rw [List.length_map, List.take_length] at f3
      have f4 : ∀ x, x < n → G x ≠ L x → (f (.inl (x : Int))).isSome = true := fun x hx => f3 x (Y.perm.mem_iff.mpr (List.mem_range.mpr hx))
      refine ws_seq (ws_ifF ?_ (ws_next ?_))
      · walk_at "z"
        refine wd_f (wf_mapL Nat (by walk_at "v") ?_)
        walk_at "z"
        refine ⟨by omega, by omega, ?_⟩
        refine ⟨List.range n, fun k => .int (k : Nat), fun _ => .bool false, by rw [Int.toNat_natCast]; exact rangeD_map, sl24 (by simp; omega), fun x hx => ?_, ?_⟩
        · have hx := List.mem_range.mp hx
          walk_at "z"
          refine ⟨_, _, _, .inr rfl, rfl, atI_nat (ints_at hx), ?_⟩
          walk_at "z"
          refine ⟨_, _, _, .inr rfl, rfl, atI_nat (ints_at hx), ?_⟩
          walk_at "z"
          refine ⟨rfl, rfl, _, rfl, fun h => ?_, fun _ => rfl⟩
          have hne : G x ≠ L x := fun e => by
            rw [e, eqv_int] at h
            simp at h
          walk_at "z"
          refine ⟨.inl (x : Int), rfl, ?_⟩
          rw [f4 x hx hne]
          rfl
        · refine ⟨_, rfl, (List.range n).map fun _ => false, by simp, _, rfl, ?_⟩
          simp
      refine ws_app (p := p1) rfl (by omega) ?_
      walk_at "z"
      refine ⟨_, _, _, _, _, _, _, _, _, _, _, _, _, _, _, _, _, _, _, rfl, by simp, by simp; omega, fun e he => ?_⟩
      rcases List.mem_append.mp he with h | h
      · exact r3 e h
      · exact ⟨G, SGd, List.mem_singleton.mp h⟩
  · obtain ⟨rows, x14, x15, x16, x17, x18, x19, x20, x21, x22, x23, x24, x25, x26, x27, x28, x29, x30, x31, rfl, r1, r2, r3⟩ := hI
    rw [rangeD_len] at r2
    have r2 : rows.length ≤ 4 := r2
    refine ws_forget 31 (ws_frz 13 rfl ?_)
    refine ws_seq (ws_asg ?_)
    walk_at "z"
    refine ⟨r1, by omega, fun a ha => ⟨_, rfl, ?_⟩⟩
    walk_at "z"
    refine ⟨r1, by omega, fun b hb => ⟨_, rfl, ?_⟩⟩
    obtain ⟨F1, T1, rfl⟩ := r3 a ha
    obtain ⟨F2, T2, rfl⟩ := r3 b hb
    walk_at "z"
    show Ws K _ (G0 s n dms layers (.dat (tI n L)) (.dat (.list (intsD (listI n O)))) (.dat (.int m)) (.dat (.int wd)) (.dat (tI n fun x => wd - O x)) (.dat tight) (.dat (.list rows)) x14 x15 x16 x17 x18 x19 x20 x21 x22 (.dat (tI n F1)) (.dat (tI n F2)) x25 x26 x27 x28 x29 x30 .un) _ _ _ _
    refine ws_seq (ws_for (wi_list (wd_f (wf_lst ?_))))
    walk_at "z"
    refine wd_f (wf_mapL Nat (by walk_at "v") ?_)
    walk_at "z"
    refine ⟨by omega, by omega, ?_⟩
    refine ⟨List.range n, fun k => .int (k : Nat), fun x => .int (if F2 x < F1 x then F2 x else F1 x), by rw [Int.toNat_natCast]; exact rangeD_map, sl24 (by simp; omega), fun x hx => ?_, ?_⟩
    · have hx := List.mem_range.mp hx
      walk_at "z"
      refine ⟨_, _, _, .inr rfl, rfl, atI_nat (ints_at hx), ?_⟩
      walk_at "z"
      refine ⟨_, _, _, .inr rfl, rfl, atI_nat (ints_at hx), ?_⟩
      walk_at "z"
      rfl
    refine ⟨_, rfl, _, .inl rfl, ?_⟩
    walk_at "z"
    refine wd_f (wf_mapL Nat (by walk_at "v") ?_)
    walk_at "z"
    refine ⟨by omega, by omega, ?_⟩
    refine ⟨List.range n, fun k => .int (k : Nat), fun x => .int (if F2 x > F1 x then F2 x else F1 x), by rw [Int.toNat_natCast]; exact rangeD_map, sl24 (by simp; omega), fun x hx => ?_, ?_⟩
    · have hx := List.mem_range.mp hx
      walk_at "z"
      refine ⟨_, _, _, .inr rfl, rfl, atI_nat (ints_at hx), ?_⟩
      walk_at "z"
      refine ⟨_, _, _, .inr rfl, rfl, atI_nat (ints_at hx), ?_⟩
      walk_at "z"
      rfl
    refine ⟨_, rfl, _, .inl rfl, ?_⟩
    have tab : ∀ F : Nat → Int, (List.range n).map (fun x => PyData.int (F x)) = intsD (listI n F) := fun F => by simp [intsD, listI]
    rw [tab fun x => if F2 x < F1 x then F2 x else F1 x, tab fun x => if F2 x > F1 x then F2 x else F1 x]
    walk_at "z"
    refine ⟨fun k Γ' => ∃ x25 : Sl, Γ' = G0 s n dms layers (.dat (tI n L)) (.dat (.list (intsD (listI n O)))) (.dat (.int m)) (.dat (.int wd)) (.dat (tI n fun x => wd - O x)) (.dat tight) (.dat (.list rows)) x14 x15 x16 x17 x18 x19 x20 x21 x22 (.dat (tI n F1)) (.dat (tI n F2)) x25 x26 x27 x28 x29 x30 .un, ⟨x25, rfl⟩, fun k e Γ' hk hI => ?_, fun Γ' hI => ?_⟩
    · obtain ⟨x25, rfl⟩ := hI
      obtain ⟨F, T, rfl⟩ : ∃ F, Sol n dms F ∧ e = tI n F := by
        have := List.mem_of_getElem? hk
        simp only [List.mem_cons, List.not_mem_nil, or_false] at this
        rcases this with rfl | rfl
        · exact ⟨_, T1.min T2, rfl⟩
        · exact ⟨_, T1.max T2, rfl⟩
      walk_at "z"
      refine ws_ifF ?_ (ws_next ⟨_, rfl⟩)
      walk_at "z"
      refine ⟨Y.gd, T.cols, _, rfl, ?_⟩
      rw [T.all Y.pl]
      walk_at "z"
      refine ⟨Y.gd, T.cols, _, rfl, ?_⟩
      rw [brk_nil (T.all Y.pl)]
      walk_at "z"
      exact ⟨(show Pl (.tuple (natsD [])) from (fl_nats (k := 5000) (l := []) (by simp) (by simp)).pl), _, rfl, _, rfl, rfl⟩
    · obtain ⟨x25, rfl⟩ := hI
      refine ws_seq (ws_set ?_)
      walk_at "z"
      refine wd_f (wf_lc (by walk_at "v") ?_)
      walk_at "z"
      refine ⟨by omega, by omega, by rw [rangeD_len]; omega, fun k acc => ∃ zs : List Int, acc = intsD zs ∧ zs.length = k ∧ ∀ z ∈ zs, 1 ≤ z ∧ z < 10 ^ 12, ⟨[], rfl, rfl, fun z h => (by cases h)⟩, fun k e acc hk hI => ?_, fun acc hI => ?_⟩
      · obtain ⟨zs, rfl, z1, z2⟩ := hI
        obtain ⟨hk', rfl⟩ := rangeD_get hk
        have hx : k < n := by omega
        rw [Int.zero_add]
        walk_at "z"
        refine ⟨_, _, _, .inr rfl, rfl, atI_nat (ints_at hx), ?_⟩
        walk_at "z"
        refine ⟨_, _, _, .inr rfl, rfl, atI_nat (ints_at hx), ?_⟩
        walk_at "z"
        refine ⟨_, _, _, .inr rfl, rfl, atI_nat (ints_at hx), ?_⟩
        walk_at "z"
        refine ⟨by omega, by omega, fun t t0 t1 => ⟨_, rfl, ?_⟩⟩
        walk_at "z"
        refine ⟨rfl, rfl, .inr ⟨_, rfl, ?_⟩⟩
        walk_at "z"
        refine ⟨by simp, by simp, fun a ha => ⟨_, rfl, ?_⟩⟩
        obtain ⟨z, rfl, hz1, hz2⟩ : ∃ z : Int, a = .int z ∧ 1 ≤ z ∧ z < 10 ^ 12 := by
          have a1 := SL.pos k hx
          have a2 := SL.top k hx
          have a3 := SG.pos k hx
          have a4 := SG.top k hx
          simp only [List.mem_cons, List.not_mem_nil, or_false] at ha
          rcases ha with rfl | rfl | rfl
          · exact ⟨_, rfl, a1, a2⟩
          · exact ⟨_, rfl, a3, a4⟩
          · refine ⟨_, rfl, ?_⟩
            split
            · split at * <;> omega
            · omega
        refine ⟨zs ++ [z], by simp, by simp [z1], fun y hy => ?_⟩
        rcases List.mem_append.mp hy with h | h
        · exact z2 y h
        · rw [List.mem_singleton.mp h]; exact ⟨hz1, hz2⟩
      · obtain ⟨zs, rfl, z1, z2⟩ := hI
        rw [rangeD_len, Int.toNat_natCast] at z1
        refine ⟨_, rfl, _, .inl rfl, ?_⟩
        have C : Cols n zs := ⟨z1, fun c hc => (z2 c hc).1⟩
        refine ws_seq (ws_set ?_)
        walk_at "z"
        refine ⟨zs, dms, rfl, dl, fun d hd => by rw [z1]; exact Y.pl d hd, _, rfl, ?_⟩
        refine ws_ret ?_
        walk_at "z"
        refine ⟨Y.gd, C, _, rfl, ?_⟩
        walk_at "z"
        refine ⟨Y.gd, C, _, rfl, ?_⟩
        walk_at "z"
        refine ⟨(sh_nats _).2, rfl, ?_⟩
        rw [eqv_nil, brk_emp]
        walk_at "z"
        exact ⟨pl_pair (fl_nats (fun a ha => by have := brk_lt.2 a ha; omega) (by have := (brk_lt (cs := zs) (dms := dms)).1; omega)) fl_bool, _, rfl, fun _ => rfl, q⟩
/-! ### the law's own call: the script is not data of ours -/
def spStream (K : PySem.W.Frag) : Sp := fun vs H Q _ => ∃ (a : Addr) (ns : List Int), vs = [.ref a] ∧ SqL K H a (ns.map V.int) ∧
  ∀ l s, H l = none → upd H l (.lst (ns.map V.int)) s = none → Q (.ref s) (upd (upd H l (.lst (ns.map V.int))) s (.lst [.ref l, .int 0, .int 0]))
def spLaw (K : PySem.W.Frag) : Sp := fun vs H Q _ => ∃ (a : Addr) (ns : List Int), vs = [.ref a] ∧ SqL K H a (ns.map V.int) ∧ ∀ H', Q (.bl true) H'
section
variable {P : Program} {w : World} {K : PySem.W.Frag} {mg : Str → Option Value} {base : Heap}
def CalS (P : Program) (w : World) (K : PySem.W.Frag) (mg : Str → Option Value) (base : Heap) : Prop :=
  ∃ f fd, FnG P w K mg base L2.CX0 1 f fd ["script"] (spStream K) ∧ mg "_law_stream" = some (.ref f) ∧ PySem.W.keepIn K (.ref f) = true ∧ Binds K fd ["script"] []
theorem rd_stream {vs : List V} {H : Hp} {Q : VK} {E : XK} (h : spStream K vs H Q E) : t__law_stream K { nx := fun _ H' => Q .non H', rt := Q } (start ["script"] vs) H := by
  obtain ⟨a, ns, rfl, hS, k⟩ := h
  exact ⟨.ref a, rfl, a, _, rfl, .inl hS, fun l hl => ⟨(by decide : (3 : Nat) ≤ sizeLine), fun s hs => k l s hl hs⟩⟩
end
section
variable {X : Cx} {k : Nat} {p pos : Pos} {e : Expr} {es : List Expr} {t : TA}
theorem pe_calS (c : CalS X.prog X.w X.K X.mg X.base) (hA : X.A.guards = some []) (hr : Room 1 X.A) (hg : Gl X "_law_stream") (ha : PA X (e :: es) t)
    (he : starEach (e :: es) X.env = (false, eval e X.env) :: starEach es X.env := by rfl) (hpl : (backTo pos (starEach es X.env)).any (·.1) = false := by rfl) : PE X (.Call (.Name "_law_stream" p) (e :: es) [] pos) (tCall (spStream X.K) [] E0 t) := by
  obtain ⟨f, fd, F, hm, hk, hb⟩ := c
  exact pe_callG F hA hr hg hm hk hb pass0 ha (by decide) he hpl
end
def t_law (K : PySem.W.Frag) : TS :=
  (tSeq (tAsg (tCall (spStream K) [] E0 (tCons (tVar 0) tNil)) (gName 1))
  (tSeq (tAsg (tCall (spZ K true P__law_pick) [] E0 (tCons (tVar 1) (tCons (tLst (tCons (tTup (tCons (tC (.int 3)) (tCons (tC (.int 4)) tNil))) (tCons (tTup (tCons (tC (.int 1)) (tCons (tC (.int 7)) tNil))) (tCons (tTup (tCons (tC (.int 8)) (tCons (tC (.int 8)) tNil))) (tCons (tTup (tCons (tC (.int 9)) (tCons (tC (.int 5)) tNil))) (tCons (tTup (tCons (tC (.int 2)) (tCons (tC (.int 2)) tNil))) tNil)))))) tNil))) (gTup K 2 (gCons (gName 2) (gCons (gName 3) gNil))))
  (tSeq (tIfS (tTest (tOp (rEqD K) (tCall (spZ K true P__law_next) [] E0 (tCons (tVar 1) (tCons (tC (.int 6)) tNil))) (tC (.int 0)))) (tPar 2 3 (tCons (tC (.int 20)) (tCons (tOp rAddI (tC (.int 15)) (tCall (spZ K true P__law_next) [] E0 (tCons (tVar 1) (tCons (tC (.int 6)) tNil)))) tNil))) tNext)
  (tSeq (tAsg (tCall (spZ K true P__law_cells) [] E0 (tCons (tVar 1) (tCons (tVar 2) (tCons (tVar 3) tNil)))) (gTup K 2 (gCons (gName 4) (gCons (gName 5) gNil))))
  (tSeq (tIfS (tNot (tB (tCall (spZ K true P__law_is_between) [] E0 (tCons (tVar 1) (tCons (tVar 4) (tCons (tVar 5) tNil)))))) (tRet (tC (.bl false))) tNext)
  (tSeq (tAsg (tCall (spZ K true P__law_layers) [] E0 (tCons (tVar 1) (tCons (tOp rAddI (tC (.int 2)) (tCall (spZ K true P__law_next) [] E0 (tCons (tVar 1) (tCons (tCall (spZ K true P__law_pick) [] E0 (tCons (tVar 1) (tCons (tLst (tCons (tC (.int 5)) (tCons (tC (.int 39)) tNil))) tNil))) tNil)))) tNil))) (gTup K 2 (gCons (gName 4) (gCons (gName 5) gNil))))
  (tRet (tCall (spZ K true P__law_is_between) [] E0 (tCons (tVar 1) (tCons (tVar 4) (tCons (tVar 5) tNil)))))))))))
theorem W_law (K : PySem.W.Frag) : ∃ u, t_law K = tSeq (tAsg (tCall (spStream K) [] E0 (tCons (tVar 0) tNil)) (gName 1)) u ∧
    ∀ s, Ws K u [.un, .own s .strm, .un, .un, .un, .un] (fun _ => False) (fun _ r => r = .dat (.bool true)) (fun _ => False) (fun _ => False) := by
  refine ⟨_, rfl, fun s => ?_⟩
  refine ws_seq (ws_asg ?_)
  walk_at "z"
  refine ⟨by simp, by simp, fun d hd => ⟨_, rfl, ?_⟩⟩
  obtain ⟨h0, w0, rfl, a1, a2, a3, a4, a5⟩ : ∃ h w : Nat, d = .tuple [.int h, .int w] ∧ 1 ≤ h ∧ 1 ≤ w ∧ h * w ≤ 400 ∧ h ≤ 400 ∧ w ≤ 400 := by
    simp only [List.mem_cons, List.not_mem_nil, or_false] at hd
    rcases hd with rfl | rfl | rfl | rfl | rfl
    · exact ⟨3, 4, rfl, by decide, by decide, by decide, by decide, by decide⟩
    · exact ⟨1, 7, rfl, by decide, by decide, by decide, by decide, by decide⟩
    · exact ⟨8, 8, rfl, by decide, by decide, by decide, by decide, by decide⟩
    · exact ⟨9, 5, rfl, by decide, by decide, by decide, by decide, by decide⟩
    · exact ⟨2, 2, rfl, by decide, by decide, by decide, by decide, by decide⟩
  walk_at "z"
  refine ws_seq (ws_imp (N' := fun Γ' => ∃ h w : Nat, Γ' = [.un, .own s .strm, .dat (.int h), .dat (.int w), .un, .un] ∧ 1 ≤ h ∧ 1 ≤ w ∧ h * w ≤ 400 ∧ h ≤ 400 ∧ w ≤ 400) ?_ ?_)
  · refine ws_if ?_
    walk_at "z"
    refine ⟨by omega, by omega, fun d d0 d1 => ⟨_, rfl, ?_⟩⟩
    walk_at "z"
    refine ⟨rfl, rfl, _, rfl, fun _ => ?_, fun _ => ws_next ⟨h0, w0, rfl, a1, a2, a3, a4, a5⟩⟩
    refine ws_par ?_
    walk_at "z"
    refine ⟨by omega, by omega, fun d d0 d1 => ⟨_, rfl, ?_⟩⟩
    walk_at "z"
    obtain ⟨j, rfl⟩ : ∃ j : Nat, d = j := ⟨d.toNat, by omega⟩
    have hj : j < 6 := by omega
    have m := Nat.mul_le_mul_left 20 (show 15 + j ≤ 20 by omega)
    exact ⟨20, 15 + j, rfl, by omega, by omega, by omega, by omega, by omega⟩
  · rintro Γ' ⟨h, w, rfl, a1, a2, a3, a4, a5⟩
    refine ws_seq (ws_asg ?_)
    walk_at "z"
    refine ⟨h, w, rfl, a1, a2, a3, a4, a5, fun n dms layers Y => ⟨_, rfl, ?_⟩⟩
    walk_at "z"
    refine ws_seq (ws_ifF ?_ (ws_next ?_))
    · walk_at "z"
      exact ⟨n, dms, layers, rfl, Y, _, rfl, _, rfl, rfl⟩
    refine ws_seq (ws_asg ?_)
    walk_at "z"
    refine ⟨by simp, by simp, fun d hd => ⟨_, rfl, ?_⟩⟩
    obtain ⟨b, rfl, b1, b2⟩ : ∃ t : Int, d = .int t ∧ 0 < t ∧ t ≤ 39 := by
      simp only [List.mem_cons, List.not_mem_nil, or_false] at hd
      rcases hd with rfl | rfl
      · exact ⟨_, rfl, by decide, by decide⟩
      · exact ⟨_, rfl, by decide, by decide⟩
    walk_at "z"
    refine ⟨by omega, by omega, fun d d0 d1 => ⟨_, rfl, ?_⟩⟩
    obtain ⟨j, rfl⟩ : ∃ j : Nat, d = j := ⟨d.toNat, by omega⟩
    walk_at "z"
    refine ⟨show 2 ≤ 2 + j by omega, show 2 + j ≤ 40 by omega, fun n dms layers Y => ⟨_, rfl, ?_⟩⟩
    walk_at "z"
    refine ws_ret ?_
    walk_at "z"
    exact ⟨n, dms, layers, rfl, Y, _, rfl, rfl⟩
theorem rd_law {K : PySem.W.Frag} {vs : List V} {H : Hp} {Q : VK} {E : XK} (h : spLaw K vs H Q E) : t_law K { nx := fun _ H' => Q .non H', rt := Q } (start ["script", "stream", "high", "wide", "demands", "layers"] vs) H := by
  obtain ⟨a, ns, rfl, hS, k⟩ := h
  obtain ⟨u, hu, W⟩ := W_law K
  rw [hu]
  refine ⟨.ref a, rfl, a, ns, rfl, hS, fun l s hl hs => ?_⟩
  have st0 : St8 K ⟨fun _ => none, H, fun _ => False⟩ [.un, .un, .un, .un, .un, .un] (start ["script", "stream", "high", "wide", "demands", "layers"] [.ref a]) (fun _ => none) H := by
    refine ⟨fun i sl hi => ?_, fun b o e => (by cases e), fun i j p b q b' _ h1 => ?_, fun i p b h1 => ?_, Same.refl _, fun _ _ => rfl, fun b o e _ => e, fun b hb => hb, fun b hb => hb.elim⟩
    · match i, hi with
      | 0, hi => cases hi; exact ⟨_, rfl, trivial⟩
      | 1, hi => cases hi; exact ⟨_, rfl, trivial⟩
      | 2, hi => cases hi; exact ⟨_, rfl, trivial⟩
      | 3, hi => cases hi; exact ⟨_, rfl, trivial⟩
      | 4, hi => cases hi; exact ⟨_, rfl, trivial⟩
      | 5, hi => cases hi; exact ⟨_, rfl, trivial⟩
      | n + 6, hi => cases hi
    · have := List.mem_of_getElem? h1
      simp at this
    · have := List.mem_of_getElem? h1
      simp at this
  obtain ⟨st1, e1⟩ := st0.alloc (o := .lst (ns.map V.int)) hl
  have st2 := st1.new (o := .lst [.ref l, .int 0, .int 0]) hs
  have fr := st1.frs (b := .strm) hs rfl ⟨l, 0, 0, ns, upd_same, upd_same, Int.le_refl _⟩
  refine W s _ _ _ _ _ (st2.setO 1 fr) (fun _ _ _ _ _ _ h => h.elim) (fun v r Γ' σ' H0' H' _ _ rv e => ?_) (fun _ _ _ _ _ _ h => h.elim) (fun _ _ _ _ _ _ h => h.elim)
  have e : r = .dat (.bool true) := e
  subst e
  have rv : Rp K H0' v (.bool true) := rv
  cases rv
  exact k _
end Z
namespace Z
open PySem PySem.Spec PyProof.Rows L2
/-! ### the text of this law, def by def -/
def topS (i : Nat) : Stmt := PySem.Challenge.pw_laidout_k06_between_least_and_greatest.main.body.getD i (.Pass ⟨0, 0, 0, 0⟩)
section
variable {P : Program} {w : World} {K : PySem.W.Frag} {mg : Str → Option Value} {base : Heap}
/-! raised: slots 0 many, 1 demands, 2 values, 3 found, 4 causes, 5 turn, 6 late, 7 number, 8 place, 9 other, 10 weight -/
abbrev s_raised : Stmt := topS 4
abbrev N_raised : List Str := ["many", "demands", "values", "found", "causes", "turn", "late", "number", "place", "other", "weight"]
theorem sc_raised : FnScope N_raised ["many", "demands", "values"] (defScope s_raised) := ⟨rfl, rfl, rfl, by decide +kernel, rfl, by decide +kernel, by decide +kernel⟩
theorem ok_raised (D : DefZ K mg "raised" ["many", "demands", "values"] s_raised) (b_list : mg "list" = none) (b_range : mg "range" = none) (b_enumerate : mg "enumerate" = none)
    (W : ∀ (K : PySem.W.Frag) ds Φ s, P_raised ds Φ → Ws K (t_raised K) (Γ0 false s ds 8) (fun Γ' => Kp false s Γ' ∧ Φ (.dat .none)) (fun Γ' r => Kp false s Γ' ∧ Φ r) (fun _ => False) (fun _ => False)) :
    CalZ P w K mg base 1 "raised" ["many", "demands", "values"] false P_raised := by
  refine calZ_of D sc_raised (n := 3) len_raised rfl fun f cdv A fr s H vs Q E hG hr h => ?_
  have hu := hu_of hr
  have hu64 := hu64_of hr
  have hu70 := hu70_of hr
  refine ⟨t_raised K, PSs.nox ?_, enterZ (m := 8) h fun ds Φ st p => ⟨?_, W K ds Φ st p⟩⟩
  · exact (pss_cons (ps_par (i := 3) (j := 4) rfl sc_raised.nd rfl rfl (by decide) rfl rfl (pa_cons (pe_callTy call_list_of (by rfl) b_list (by decide +kernel) (pa_cons (pv 2) pa_nil)) (pa_cons (pe_op op_rep (pe_lst (pa_cons pe_non pa_nil)) (pv 0)) pa_nil)) (by rfl))
      (pss_cons (ps_for PassesOwn.never rfl (pi_range1 rfl b_range (pa_cons (pe_op op_add (pv 0) pe_int) pa_nil)) (pg_name (i := 5) sc_raised.nd rfl (Or.inl rfl)) (pss_cons (ps_set (i := 6) sc_raised.nd rfl (Or.inl rfl) pe_non)
      (pss_cons (ps_for PassesOwn.never rfl (pi_enumQ (by rfl) b_enumerate (pa_cons (pv 1) pa_nil)) (pg_tup rfl (pgs_cons (pg_name (i := 7) sc_raised.nd rfl (Or.inl rfl)) (pgs_cons (pg_tup rfl (pgs_cons (pg_name (i := 8) sc_raised.nd rfl (Or.inl rfl)) (pgs_cons (pg_name (i := 9) sc_raised.nd rfl (Or.inl rfl)) (pgs_cons (pg_name (i := 10) sc_raised.nd rfl (Or.inl rfl)) pgs_nil)))) pgs_nil))) (pss_one (ps_if (PW.pt (pw_and (pt_cmpR op_notN (pe_ix ix_seq (pv 3) (pv 9) (fun _ _ => rfl)) pe_non (nomark _)) (pw_and1 (PW.pt (pw_or (pt_cmpR op_isN (pe_ix ix_seq (pv 3) (pv 8) (fun _ _ => rfl)) pe_non (nomark _)) (pw_or1 (pt_cmpR op_lt (pe_ix ix_seq (pv 3) (pv 8) (fun _ _ => rfl)) (pe_op op_add (pe_ix ix_seq (pv 3) (pv 9) (fun _ _ => rfl)) (pv 10)) (nomark _)))))))) (pss_one (ps_asg (pe_tup (pa_cons (pe_op op_add (pe_ix ix_seq (pv 3) (pv 9) (fun _ _ => rfl)) (pv 10)) (pa_cons (pv 7) (pa_cons (pv 8) pa_nil)))) (pg_tup rfl (pgs_cons (pg_sub (pv 3) (pv 8) set_list) (pgs_cons (pg_sub (pv 4) (pv 8) set_list) (pgs_cons (pg_name (i := 6) sc_raised.nd rfl (Or.inl rfl)) pgs_nil)))))) pss_nil)))
      (pss_one (ps_if (pt_cmpR op_isN (pv 6) pe_non (nomark _)) (pss_one ps_break) pss_nil)))))
      (pss_one (ps_ret (pe_tup (pa_cons (pv 3) (pa_cons (pv 4) (pa_cons (pv 6) pa_nil))))))))
  · rw [len_raised _ _ p]; decide
/-! least_among: slots 0 many, 1 demands, 2 found, 3 causes, 4 late -/
abbrev s_least_among : Stmt := topS 5
abbrev N_least_among : List Str := ["many", "demands", "found", "causes", "late"]
theorem sc_least_among : FnScope N_least_among ["many", "demands"] (defScope s_least_among) := ⟨rfl, rfl, rfl, by decide +kernel, rfl, by decide +kernel, by decide +kernel⟩
theorem ok_least_among (D : DefZ K mg "least_among" ["many", "demands"] s_least_among) (c_raised : CalZ P w K mg base 1 "raised" ["many", "demands", "values"] false P_raised) (b_tuple : mg "tuple" = none)
    (W : ∀ (K : PySem.W.Frag) ds Φ s, P_least_among ds Φ → Ws K (t_least_among K) (Γ0 false s ds 3) (fun Γ' => Kp false s Γ' ∧ Φ (.dat .none)) (fun Γ' r => Kp false s Γ' ∧ Φ r) (fun _ => False) (fun _ => False)) :
    CalZ P w K mg base 2 "least_among" ["many", "demands"] false P_least_among := by
  refine calZ_of D sc_least_among (n := 2) len_least_among rfl fun f cdv A fr s H vs Q E hG hr h => ?_
  have hu := hu_of hr
  have hu64 := hu64_of hr
  have hu70 := hu70_of hr
  refine ⟨t_least_among K, PSs.nox ?_, enterZ (m := 3) h fun ds Φ st p => ⟨?_, W K ds Φ st p⟩⟩
  · exact (pss_cons (ps_asg (pe_calZ c_raised hG (hr.mono (by decide)) (by rfl) (pa_cons (pv 0) (pa_cons (pv 1) (pa_cons (pe_op op_rep (pe_lst (pa_cons pe_int pa_nil)) (pv 0)) pa_nil)))) (pg_tup rfl (pgs_cons (pg_name (i := 2) sc_least_among.nd rfl (Or.inl rfl)) (pgs_cons (pg_name (i := 3) sc_least_among.nd rfl (Or.inl rfl)) (pgs_cons (pg_name (i := 4) sc_least_among.nd rfl (Or.inl rfl)) pgs_nil)))))
      (pss_one (ps_ret (pe_ifExp (pt_cmpR op_isN (pv 4) pe_non (nomark _)) (pe_callTy call_tuple_of (by rfl) b_tuple (by decide +kernel) (pa_cons (pv 2) pa_nil)) pe_non))))
  · rw [len_least_among _ _ p]; decide
/-! heaviest_from: slots 0 many, 1 demands, 2 place, 3 begin -/
abbrev s_heaviest_from : Stmt := topS 6
abbrev N_heaviest_from : List Str := ["many", "demands", "place", "begin"]
theorem sc_heaviest_from : FnScope N_heaviest_from ["many", "demands", "place"] (defScope s_heaviest_from) := ⟨rfl, rfl, rfl, by decide +kernel, rfl, by decide +kernel, by decide +kernel⟩
theorem ok_heaviest_from (D : DefZ K mg "heaviest_from" ["many", "demands", "place"] s_heaviest_from) (c_raised : CalZ P w K mg base 1 "raised" ["many", "demands", "values"] false P_raised)
    (W : ∀ (K : PySem.W.Frag) ds Φ s, P_heaviest_from ds Φ → Ws K (t_heaviest_from K) (Γ0 false s ds 1) (fun Γ' => Kp false s Γ' ∧ Φ (.dat .none)) (fun Γ' r => Kp false s Γ' ∧ Φ r) (fun _ => False) (fun _ => False)) :
    CalZ P w K mg base 2 "heaviest_from" ["many", "demands", "place"] false P_heaviest_from := by
  refine calZ_of D sc_heaviest_from (n := 3) len_heaviest_from rfl fun f cdv A fr s H vs Q E hG hr h => ?_
  have hu := hu_of hr
  have hu64 := hu64_of hr
  have hu70 := hu70_of hr
  refine ⟨t_heaviest_from K, PSs.nox ?_, enterZ (m := 1) h fun ds Φ st p => ⟨?_, W K ds Φ st p⟩⟩
  · exact (pss_cons (ps_set (i := 3) sc_heaviest_from.nd rfl (Or.inl rfl) (pe_op op_rep (pe_lst (pa_cons pe_non pa_nil)) (pv 0)))
      (pss_cons (ps_asg pe_int (pg_sub (pv 3) (pv 2) set_list))
      (pss_one (ps_ret (pe_slice sl_tupA (pe_calZ c_raised hG (hr.mono (by decide)) (by rfl) (pa_cons (pv 0) (pa_cons (pv 1) (pa_cons (pv 3) pa_nil)))) po_none (po_some pe_int))))))
  · rw [len_heaviest_from _ _ p]; decide
/-! is_integer: slots 0 value -/
abbrev s_is_integer : Stmt := topS 8
abbrev N_is_integer : List Str := ["value"]
theorem sc_is_integer : FnScope N_is_integer ["value"] (defScope s_is_integer) := ⟨rfl, rfl, rfl, by decide +kernel, rfl, by decide +kernel, by decide +kernel⟩
theorem ok_is_integer (D : DefZ K mg "is_integer" ["value"] s_is_integer) (b_bool : mg "bool" = none) (b_isinstance : mg "isinstance" = none) (b_int : mg "int" = none)
    (W : ∀ (K : PySem.W.Frag) ds Φ s, P_is_integer ds Φ → Ws K (t_is_integer K) (Γ0 false s ds 0) (fun Γ' => Kp false s Γ' ∧ Φ (.dat .none)) (fun Γ' r => Kp false s Γ' ∧ Φ r) (fun _ => False) (fun _ => False)) :
    CalZ P w K mg base 1 "is_integer" ["value"] false P_is_integer := by
  refine calZ_of D sc_is_integer (n := 1) len_is_integer rfl fun f cdv A fr s H vs Q E hG hr h => ?_
  have hu := hu_of hr
  have hu64 := hu64_of hr
  have hu70 := hu70_of hr
  refine ⟨t_is_integer K, PSs.nox ?_, enterZ (m := 0) h fun ds Φ st p => ⟨?_, W K ds Φ st p⟩⟩
  · exact (pss_one (ps_ret (pe_and (pe_callB call_isi (by rfl) b_isinstance (by decide +kernel) (pa_cons (pv 0) (pa_cons (pe_bltn (v := .ty "int") (by rfl) b_int (by decide +kernel) rfl) pa_nil))) (pe_one (pe_not (pe_callB call_isi (by rfl) b_isinstance (by decide +kernel) (pa_cons (pv 0) (pa_cons (pe_bltn (v := .ty "bool") (by rfl) b_bool (by decide +kernel) rfl) pa_nil))))))))
  · rw [len_is_integer _ _ p]; decide
/-! is_from_to: slots 0 value, 1 least, 2 most -/
abbrev s_is_from_to : Stmt := topS 9
abbrev N_is_from_to : List Str := ["value", "least", "most"]
theorem sc_is_from_to : FnScope N_is_from_to ["value", "least", "most"] (defScope s_is_from_to) := ⟨rfl, rfl, rfl, by decide +kernel, rfl, by decide +kernel, by decide +kernel⟩
theorem ok_is_from_to (D : DefZ K mg "is_from_to" ["value", "least", "most"] s_is_from_to) (c_is_integer : CalZ P w K mg base 1 "is_integer" ["value"] false P_is_integer)
    (W : ∀ (K : PySem.W.Frag) ds Φ s, P_is_from_to ds Φ → Ws K (t_is_from_to K) (Γ0 false s ds 0) (fun Γ' => Kp false s Γ' ∧ Φ (.dat .none)) (fun Γ' r => Kp false s Γ' ∧ Φ r) (fun _ => False) (fun _ => False)) :
    CalZ P w K mg base 2 "is_from_to" ["value", "least", "most"] false P_is_from_to := by
  refine calZ_of D sc_is_from_to (n := 3) len_is_from_to rfl fun f cdv A fr s H vs Q E hG hr h => ?_
  have hu := hu_of hr
  have hu64 := hu64_of hr
  have hu70 := hu70_of hr
  refine ⟨t_is_from_to K, PSs.nox ?_, enterZ (m := 0) h fun ds Φ st p => ⟨?_, W K ds Φ st p⟩⟩
  · exact (pss_one (ps_ret (pe_and (pe_calZ c_is_integer hG (hr.mono (by decide)) (by rfl) (pa_cons (pv 0) pa_nil)) (pe_one (pe_chain op_le op_le (pv 1) (pv 0) (pv 2))))))
  · rw [len_is_from_to _ _ p]; decide
/-! is_tuple_of: slots 0 value, 1 least, 2 most -/
abbrev s_is_tuple_of : Stmt := topS 10
abbrev N_is_tuple_of : List Str := ["value", "least", "most"]
theorem sc_is_tuple_of : FnScope N_is_tuple_of ["value", "least", "most"] (defScope s_is_tuple_of) := ⟨rfl, rfl, rfl, by decide +kernel, rfl, by decide +kernel, by decide +kernel⟩
theorem ok_is_tuple_of (D : DefZ K mg "is_tuple_of" ["value", "least", "most"] s_is_tuple_of) (b_len : mg "len" = none) (b_tuple : mg "tuple" = none) (b_isinstance : mg "isinstance" = none)
    (W : ∀ (K : PySem.W.Frag) ds Φ s, P_is_tuple_of ds Φ → Ws K (t_is_tuple_of K) (Γ0 false s ds 0) (fun Γ' => Kp false s Γ' ∧ Φ (.dat .none)) (fun Γ' r => Kp false s Γ' ∧ Φ r) (fun _ => False) (fun _ => False)) :
    CalZ P w K mg base 1 "is_tuple_of" ["value", "least", "most"] false P_is_tuple_of := by
  refine calZ_of D sc_is_tuple_of (n := 3) len_is_tuple_of rfl fun f cdv A fr s H vs Q E hG hr h => ?_
  have hu := hu_of hr
  have hu64 := hu64_of hr
  have hu70 := hu70_of hr
  refine ⟨t_is_tuple_of K, PSs.nox ?_, enterZ (m := 0) h fun ds Φ st p => ⟨?_, W K ds Φ st p⟩⟩
  · exact (pss_one (ps_ret (pe_and (pe_callB call_isi (by rfl) b_isinstance (by decide +kernel) (pa_cons (pv 0) (pa_cons (pe_bltn (v := .ty "tuple") (by rfl) b_tuple (by decide +kernel) rfl) pa_nil))) (pe_one (pe_chain op_le op_le (pv 1) (pe_callB call_len_seq (by rfl) b_len (by decide +kernel) (pa_cons (pv 0) pa_nil)) (pv 2))))))
  · rw [len_is_tuple_of _ _ p]; decide
/-! is_demand: slots 0 many, 1 value -/
abbrev s_is_demand : Stmt := topS 15
abbrev N_is_demand : List Str := ["many", "value"]
theorem sc_is_demand : FnScope N_is_demand ["many", "value"] (defScope s_is_demand) := ⟨rfl, rfl, rfl, by decide +kernel, rfl, by decide +kernel, by decide +kernel⟩
theorem ok_is_demand (D : DefZ K mg "is_demand" ["many", "value"] s_is_demand) (c_is_from_to : CalZ P w K mg base 2 "is_from_to" ["value", "least", "most"] false P_is_from_to) (c_is_tuple_of : CalZ P w K mg base 1 "is_tuple_of" ["value", "least", "most"] false P_is_tuple_of) (k_MOST_STEP : ∃ tk, mg "MOST_STEP" = some (.int 1000 tk))
    (W : ∀ (K : PySem.W.Frag) ds Φ s, P_is_demand ds Φ → Ws K (t_is_demand K) (Γ0 false s ds 0) (fun Γ' => Kp false s Γ' ∧ Φ (.dat .none)) (fun Γ' r => Kp false s Γ' ∧ Φ r) (fun _ => False) (fun _ => False)) :
    CalZ P w K mg base 3 "is_demand" ["many", "value"] false P_is_demand := by
  obtain ⟨_, k_MOST_STEP⟩ := k_MOST_STEP
  refine calZ_of D sc_is_demand (n := 2) len_is_demand rfl fun f cdv A fr s H vs Q E hG hr h => ?_
  have hu := hu_of hr
  have hu64 := hu64_of hr
  have hu70 := hu70_of hr
  refine ⟨t_is_demand K, PSs.nox ?_, enterZ (m := 0) h fun ds Φ st p => ⟨?_, W K ds Φ st p⟩⟩
  · exact (pss_cons (ps_if (PW.pt (pw_or (pt_not (pt_val (pe_calZ c_is_tuple_of hG (hr.mono (by decide)) (by rfl) (pa_cons (pv 1) (pa_cons pe_int (pa_cons pe_int pa_nil)))))) (pw_or1 (pt_not (pt_val (pe_calZ c_is_from_to hG (hr.mono (by decide)) (by rfl) (pa_cons (pe_ix ix_seq (pv 1) pe_int (fun _ _ => rfl)) (pa_cons pe_int (pa_cons (pe_glob (v := .int 1000) rfl k_MOST_STEP ⟨_, rfl⟩) pa_nil))))))))) (pss_one (ps_ret pe_bl)) pss_nil)
      (pss_one (ps_ret (pe_and (pe_calZ c_is_from_to hG (hr.mono (by decide)) (by rfl) (pa_cons (pe_ix ix_seq (pv 1) pe_int (fun _ _ => rfl)) (pa_cons pe_int (pa_cons (pe_op op_sub (pv 0) pe_int) pa_nil)))) (pe_one (pe_calZ c_is_from_to hG (hr.mono (by decide)) (by rfl) (pa_cons (pe_ix ix_seq (pv 1) pe_int (fun _ _ => rfl)) (pa_cons pe_int (pa_cons (pe_op op_sub (pv 0) pe_int) pa_nil)))))))))
  · rw [len_is_demand _ _ p]; decide
/-! check_demands: slots 0 many*, 1 demands, 2 demand -/
abbrev s_check_demands : Stmt := topS 16
abbrev N_check_demands : List Str := ["many", "demands", "demand"]
theorem sc_check_demands : FnScope N_check_demands ["many", "demands"] (defScope s_check_demands) := ⟨rfl, rfl, rfl, by decide +kernel, rfl, by decide +kernel, by decide +kernel⟩
theorem ok_check_demands (D : DefZ K mg "check_demands" ["many", "demands"] s_check_demands) (c_is_from_to : CalZ P w K mg base 2 "is_from_to" ["value", "least", "most"] false P_is_from_to) (c_is_demand : CalZ P w K mg base 3 "is_demand" ["many", "value"] false P_is_demand) (c_is_tuple_of : CalZ P w K mg base 1 "is_tuple_of" ["value", "least", "most"] false P_is_tuple_of) (k_MOST_PLACES : ∃ tk, mg "MOST_PLACES" = some (.int 1000 tk)) (b_all : mg "all" = none) (k_MOST_DEMANDS : ∃ tk, mg "MOST_DEMANDS" = some (.int 4000 tk))
    (W : ∀ (K : PySem.W.Frag) ds Φ s, P_check_demands ds Φ → Ws K (t_check_demands K) (Γ0 false s ds 1) (fun Γ' => Kp false s Γ' ∧ Φ (.dat .none)) (fun Γ' r => Kp false s Γ' ∧ Φ r) (fun _ => False) (fun _ => False)) :
    CalZ P w K mg base 4 "check_demands" ["many", "demands"] false P_check_demands := by
  obtain ⟨_, k_MOST_PLACES⟩ := k_MOST_PLACES
  obtain ⟨_, k_MOST_DEMANDS⟩ := k_MOST_DEMANDS
  refine calZ_of D sc_check_demands (n := 2) len_check_demands rfl fun f cdv A fr s H vs Q E hG hr h => ?_
  have hu := hu_of hr
  have hu64 := hu64_of hr
  have hu70 := hu70_of hr
  refine ⟨t_check_demands K, PSs.nox ?_, enterZ (m := 1) h fun ds Φ st p => ⟨?_, W K ds Φ st p⟩⟩
  · exact (pss_cons (ps_if (pt_not (pt_val (pe_calZ c_is_from_to hG (hr.mono (by decide)) (by rfl) (pa_cons (pv 0) (pa_cons pe_int (pa_cons (pe_glob (v := .int 1000) rfl k_MOST_PLACES ⟨_, rfl⟩) pa_nil)))))) (pss_one ps_never) pss_nil)
      (pss_one (ps_if (PW.pt (pw_or (pt_not (pt_val (pe_calZ c_is_tuple_of hG (hr.mono (by decide)) (by rfl) (pa_cons (pv 1) (pa_cons pe_int (pa_cons (pe_glob (v := .int 4000) rfl k_MOST_DEMANDS ⟨_, rfl⟩) pa_nil)))))) (pw_or1 (pt_not (pt_val (pe_callB (cr_all rfl) (by rfl) b_all (by decide +kernel) (pa_cons (pe_lc (own := [("demand", 2)]) rfl sc_check_demands.nd (pi_tup (pv 1)) (blkOk_by (own := [("demand", 2)]) (N := N_check_demands) (sc := defScope s_check_demands) (by decide +kernel)) (fun _ _ _ _ _ => (pg_name (i := 2) sc_check_demands.nd rfl (Or.inl rfl))) (fun _ _ _ _ _ => pts_nil) (fun _ _ _ _ _ => (pe_calZ c_is_demand hG (hr.mono (by decide)) (by rfl) (pa_cons (pv 0) (pa_cons (pv 2) pa_nil))))) pa_nil))))))) (pss_one ps_never) pss_nil)))
  · rw [len_check_demands _ _ p]; decide
/-! are_columns: slots 0 many, 1 value, 2 column -/
abbrev s_are_columns : Stmt := topS 17
abbrev N_are_columns : List Str := ["many", "value", "column"]
theorem sc_are_columns : FnScope N_are_columns ["many", "value"] (defScope s_are_columns) := ⟨rfl, rfl, rfl, by decide +kernel, rfl, by decide +kernel, by decide +kernel⟩
theorem ok_are_columns (D : DefZ K mg "are_columns" ["many", "value"] s_are_columns) (c_is_integer : CalZ P w K mg base 1 "is_integer" ["value"] false P_is_integer) (c_is_tuple_of : CalZ P w K mg base 1 "is_tuple_of" ["value", "least", "most"] false P_is_tuple_of) (b_all : mg "all" = none)
    (W : ∀ (K : PySem.W.Frag) ds Φ s, P_are_columns ds Φ → Ws K (t_are_columns K) (Γ0 false s ds 1) (fun Γ' => Kp false s Γ' ∧ Φ (.dat .none)) (fun Γ' r => Kp false s Γ' ∧ Φ r) (fun _ => False) (fun _ => False)) :
    CalZ P w K mg base 2 "are_columns" ["many", "value"] false P_are_columns := by
  refine calZ_of D sc_are_columns (n := 2) len_are_columns rfl fun f cdv A fr s H vs Q E hG hr h => ?_
  have hu := hu_of hr
  have hu64 := hu64_of hr
  have hu70 := hu70_of hr
  refine ⟨t_are_columns K, PSs.nox ?_, enterZ (m := 1) h fun ds Φ st p => ⟨?_, W K ds Φ st p⟩⟩
  · exact (pss_one (ps_ret (pe_and (pe_calZ c_is_tuple_of hG (hr.mono (by decide)) (by rfl) (pa_cons (pv 1) (pa_cons (pv 0) (pa_cons (pv 0) pa_nil)))) (pe_one (pe_callB (cr_all rfl) (by rfl) b_all (by decide +kernel) (pa_cons (pe_lc (own := [("column", 2)]) rfl sc_are_columns.nd (pi_tup (pv 1)) (blkOk_by (own := [("column", 2)]) (N := N_are_columns) (sc := defScope s_are_columns) (by decide +kernel)) (fun _ _ _ _ _ => (pg_name (i := 2) sc_are_columns.nd rfl (Or.inl rfl))) (fun _ _ _ _ _ => pts_nil) (fun _ _ _ _ _ => (pe_and (pe_calZ c_is_integer hG (hr.mono (by decide)) (by rfl) (pa_cons (pv 2) pa_nil)) (pe_one (pe_cmpR op_ge (pv 2) pe_int (nomark _)))))) pa_nil))))))
  · rw [len_are_columns _ _ p]; decide
/-! is_met: slots 0 columns, 1 demand -/
abbrev s_is_met : Stmt := topS 18
abbrev N_is_met : List Str := ["columns", "demand"]
theorem sc_is_met : FnScope N_is_met ["columns", "demand"] (defScope s_is_met) := ⟨rfl, rfl, rfl, by decide +kernel, rfl, by decide +kernel, by decide +kernel⟩
theorem ok_is_met (D : DefZ K mg "is_met" ["columns", "demand"] s_is_met)
    (W : ∀ (K : PySem.W.Frag) ds Φ s, P_is_met ds Φ → Ws K (t_is_met K) (Γ0 false s ds 0) (fun Γ' => Kp false s Γ' ∧ Φ (.dat .none)) (fun Γ' r => Kp false s Γ' ∧ Φ r) (fun _ => False) (fun _ => False)) :
    CalZ P w K mg base 1 "is_met" ["columns", "demand"] false P_is_met := by
  refine calZ_of D sc_is_met (n := 2) len_is_met rfl fun f cdv A fr s H vs Q E hG hr h => ?_
  have hu := hu_of hr
  have hu64 := hu64_of hr
  have hu70 := hu70_of hr
  refine ⟨t_is_met K, PSs.nox ?_, enterZ (m := 0) h fun ds Φ st p => ⟨?_, W K ds Φ st p⟩⟩
  · exact (pss_one (ps_ret (pe_cmpR op_ge (pe_ix ix_seq (pv 0) (pe_ix ix_seq (pv 1) pe_int (fun _ _ => rfl)) (fun _ _ => rfl)) (pe_op op_add (pe_ix ix_seq (pv 0) (pe_ix ix_seq (pv 1) pe_int (fun _ _ => rfl)) (fun _ _ => rfl)) (pe_ix ix_seq (pv 1) pe_int (fun _ _ => rfl))) (nomark _))))
  · rw [len_is_met _ _ p]; decide
/-! check_columns: slots 0 many, 1 columns -/
abbrev s_check_columns : Stmt := topS 19
abbrev N_check_columns : List Str := ["many", "columns"]
theorem sc_check_columns : FnScope N_check_columns ["many", "columns"] (defScope s_check_columns) := ⟨rfl, rfl, rfl, by decide +kernel, rfl, by decide +kernel, by decide +kernel⟩
theorem ok_check_columns (D : DefZ K mg "check_columns" ["many", "columns"] s_check_columns) (c_are_columns : CalZ P w K mg base 2 "are_columns" ["many", "value"] false P_are_columns)
    (W : ∀ (K : PySem.W.Frag) ds Φ s, P_check_columns ds Φ → Ws K (t_check_columns K) (Γ0 false s ds 0) (fun Γ' => Kp false s Γ' ∧ Φ (.dat .none)) (fun Γ' r => Kp false s Γ' ∧ Φ r) (fun _ => False) (fun _ => False)) :
    CalZ P w K mg base 3 "check_columns" ["many", "columns"] false P_check_columns := by
  refine calZ_of D sc_check_columns (n := 2) len_check_columns rfl fun f cdv A fr s H vs Q E hG hr h => ?_
  have hu := hu_of hr
  have hu64 := hu64_of hr
  have hu70 := hu70_of hr
  refine ⟨t_check_columns K, PSs.nox ?_, enterZ (m := 0) h fun ds Φ st p => ⟨?_, W K ds Φ st p⟩⟩
  · exact (pss_one (ps_if (pt_not (pt_val (pe_calZ c_are_columns hG (hr.mono (by decide)) (by rfl) (pa_cons (pv 0) (pa_cons (pv 1) pa_nil))))) (pss_one ps_never) pss_nil))
  · rw [len_check_columns _ _ p]; decide
/-! meets: slots 0 many, 1 demands, 2 columns*, 3 demand -/
abbrev s_meets : Stmt := topS 20
abbrev N_meets : List Str := ["many", "demands", "columns", "demand"]
theorem sc_meets : FnScope N_meets ["many", "demands", "columns"] (defScope s_meets) := ⟨rfl, rfl, rfl, by decide +kernel, rfl, by decide +kernel, by decide +kernel⟩
theorem ok_meets (D : DefZ K mg "meets" ["many", "demands", "columns"] s_meets) (c_check_demands : CalZ P w K mg base 4 "check_demands" ["many", "demands"] false P_check_demands) (c_check_columns : CalZ P w K mg base 3 "check_columns" ["many", "columns"] false P_check_columns) (c_is_met : CalZ P w K mg base 1 "is_met" ["columns", "demand"] false P_is_met) (b_all : mg "all" = none)
    (W : ∀ (K : PySem.W.Frag) ds Φ s, P_meets ds Φ → Ws K (t_meets K) (Γ0 false s ds 1) (fun Γ' => Kp false s Γ' ∧ Φ (.dat .none)) (fun Γ' r => Kp false s Γ' ∧ Φ r) (fun _ => False) (fun _ => False)) :
    CalZ P w K mg base 5 "meets" ["many", "demands", "columns"] false P_meets := by
  refine calZ_of D sc_meets (n := 3) len_meets rfl fun f cdv A fr s H vs Q E hG hr h => ?_
  have hu := hu_of hr
  have hu64 := hu64_of hr
  have hu70 := hu70_of hr
  refine ⟨t_meets K, PSs.nox ?_, enterZ (m := 1) h fun ds Φ st p => ⟨?_, W K ds Φ st p⟩⟩
  · exact (pss_cons (ps_expr (pe_calZ c_check_demands hG (hr.mono (by decide)) (by rfl) (pa_cons (pv 0) (pa_cons (pv 1) pa_nil))))
      (pss_cons (ps_expr (pe_calZ c_check_columns hG (hr.mono (by decide)) (by rfl) (pa_cons (pv 0) (pa_cons (pv 2) pa_nil))))
      (pss_one (ps_ret (pe_callB (cr_all rfl) (by rfl) b_all (by decide +kernel) (pa_cons (pe_lc (own := [("demand", 3)]) rfl sc_meets.nd (pi_tup (pv 1)) (blkOk_by (own := [("demand", 3)]) (N := N_meets) (sc := defScope s_meets) (by decide +kernel)) (fun _ _ _ _ _ => (pg_name (i := 3) sc_meets.nd rfl (Or.inl rfl))) (fun _ _ _ _ _ => pts_nil) (fun _ _ _ _ _ => (pe_calZ c_is_met hG (hr.mono (by decide)) (by rfl) (pa_cons (pv 2) (pa_cons (pv 3) pa_nil))))) pa_nil))))))
  · rw [len_meets _ _ p]; decide
/-! broken_demands: slots 0 many, 1 demands, 2 columns*, 3 number, 4 demand -/
abbrev s_broken_demands : Stmt := topS 21
abbrev N_broken_demands : List Str := ["many", "demands", "columns", "number", "demand"]
theorem sc_broken_demands : FnScope N_broken_demands ["many", "demands", "columns"] (defScope s_broken_demands) := ⟨rfl, rfl, rfl, by decide +kernel, rfl, by decide +kernel, by decide +kernel⟩
theorem ok_broken_demands (D : DefZ K mg "broken_demands" ["many", "demands", "columns"] s_broken_demands) (c_check_demands : CalZ P w K mg base 4 "check_demands" ["many", "demands"] false P_check_demands) (c_check_columns : CalZ P w K mg base 3 "check_columns" ["many", "columns"] false P_check_columns) (c_is_met : CalZ P w K mg base 1 "is_met" ["columns", "demand"] false P_is_met) (b_enumerate : mg "enumerate" = none) (b_tuple : mg "tuple" = none)
    (W : ∀ (K : PySem.W.Frag) ds Φ s, P_broken_demands ds Φ → Ws K (t_broken_demands K) (Γ0 false s ds 2) (fun Γ' => Kp false s Γ' ∧ Φ (.dat .none)) (fun Γ' r => Kp false s Γ' ∧ Φ r) (fun _ => False) (fun _ => False)) :
    CalZ P w K mg base 5 "broken_demands" ["many", "demands", "columns"] false P_broken_demands := by
  refine calZ_of D sc_broken_demands (n := 3) len_broken_demands rfl fun f cdv A fr s H vs Q E hG hr h => ?_
  have hu := hu_of hr
  have hu64 := hu64_of hr
  have hu70 := hu70_of hr
  refine ⟨t_broken_demands K, PSs.nox ?_, enterZ (m := 2) h fun ds Φ st p => ⟨?_, W K ds Φ st p⟩⟩
  · exact (pss_cons (ps_expr (pe_calZ c_check_demands hG (hr.mono (by decide)) (by rfl) (pa_cons (pv 0) (pa_cons (pv 1) pa_nil))))
      (pss_cons (ps_expr (pe_calZ c_check_columns hG (hr.mono (by decide)) (by rfl) (pa_cons (pv 0) (pa_cons (pv 2) pa_nil))))
      (pss_one (ps_ret (pe_callTy call_tuple_of (by rfl) b_tuple (by decide +kernel) (pa_cons (pe_lc (own := [("number", 3), ("demand", 4)]) rfl sc_broken_demands.nd (pi_enumQ (by rfl) b_enumerate (pa_cons (pv 1) pa_nil)) (blkOk_by (own := [("number", 3), ("demand", 4)]) (N := N_broken_demands) (sc := defScope s_broken_demands) (by decide +kernel)) (fun _ _ _ _ _ => (pg_tup rfl (pgs_cons (pg_name (i := 3) sc_broken_demands.nd rfl (Or.inl rfl)) (pgs_cons (pg_name (i := 4) sc_broken_demands.nd rfl (Or.inl rfl)) pgs_nil)))) (fun _ _ _ _ _ => (pts_one (pt_not (pt_val (pe_calZ c_is_met hG (hr.mono (by decide)) (by rfl) (pa_cons (pv 2) (pa_cons (pv 4) pa_nil))))))) (fun _ _ _ _ _ => (pv 3))) pa_nil))))))
  · rw [len_broken_demands _ _ p]; decide
/-! least_columns: slots 0 many, 1 demands -/
abbrev s_least_columns : Stmt := topS 22
abbrev N_least_columns : List Str := ["many", "demands"]
theorem sc_least_columns : FnScope N_least_columns ["many", "demands"] (defScope s_least_columns) := ⟨rfl, rfl, rfl, by decide +kernel, rfl, by decide +kernel, by decide +kernel⟩
theorem ok_least_columns (D : DefZ K mg "least_columns" ["many", "demands"] s_least_columns) (c_check_demands : CalZ P w K mg base 4 "check_demands" ["many", "demands"] false P_check_demands) (c_least_among : CalZ P w K mg base 2 "least_among" ["many", "demands"] false P_least_among)
    (W : ∀ (K : PySem.W.Frag) ds Φ s, P_least_columns ds Φ → Ws K (t_least_columns K) (Γ0 false s ds 0) (fun Γ' => Kp false s Γ' ∧ Φ (.dat .none)) (fun Γ' r => Kp false s Γ' ∧ Φ r) (fun _ => False) (fun _ => False)) :
    CalZ P w K mg base 5 "least_columns" ["many", "demands"] false P_least_columns := by
  refine calZ_of D sc_least_columns (n := 2) len_least_columns rfl fun f cdv A fr s H vs Q E hG hr h => ?_
  have hu := hu_of hr
  have hu64 := hu64_of hr
  have hu70 := hu70_of hr
  refine ⟨t_least_columns K, PSs.nox ?_, enterZ (m := 0) h fun ds Φ st p => ⟨?_, W K ds Φ st p⟩⟩
  · exact (pss_cons (ps_expr (pe_calZ c_check_demands hG (hr.mono (by decide)) (by rfl) (pa_cons (pv 0) (pa_cons (pv 1) pa_nil))))
      (pss_one (ps_ret (pe_calZ c_least_among hG (hr.mono (by decide)) (by rfl) (pa_cons (pv 0) (pa_cons (pv 1) pa_nil))))))
  · rw [len_least_columns _ _ p]; decide
/-! greatest_columns: slots 0 many, 1 demands, 2 width*, 3 least, 4 turned, 5 place, 6 other, 7 weight, 8 far -/
abbrev s_greatest_columns : Stmt := topS 25
abbrev N_greatest_columns : List Str := ["many", "demands", "width", "least", "turned", "place", "other", "weight", "far"]
theorem sc_greatest_columns : FnScope N_greatest_columns ["many", "demands", "width"] (defScope s_greatest_columns) := ⟨rfl, rfl, rfl, by decide +kernel, rfl, by decide +kernel, by decide +kernel⟩
theorem ok_greatest_columns (D : DefZ K mg "greatest_columns" ["many", "demands", "width"] s_greatest_columns) (c_check_demands : CalZ P w K mg base 4 "check_demands" ["many", "demands"] false P_check_demands) (c_is_from_to : CalZ P w K mg base 2 "is_from_to" ["value", "least", "most"] false P_is_from_to) (c_least_among : CalZ P w K mg base 2 "least_among" ["many", "demands"] false P_least_among) (c_raised : CalZ P w K mg base 1 "raised" ["many", "demands", "values"] false P_raised) (k_MOST_WIDTH : ∃ tk, mg "MOST_WIDTH" = some (.int 1000000 tk)) (b_max : mg "max" = none) (b_tuple : mg "tuple" = none)
    (W : ∀ (K : PySem.W.Frag) ds Φ s, P_greatest_columns ds Φ → Ws K (t_greatest_columns K) (Γ0 false s ds 6) (fun Γ' => Kp false s Γ' ∧ Φ (.dat .none)) (fun Γ' r => Kp false s Γ' ∧ Φ r) (fun _ => False) (fun _ => False)) :
    CalZ P w K mg base 5 "greatest_columns" ["many", "demands", "width"] false P_greatest_columns := by
  obtain ⟨_, k_MOST_WIDTH⟩ := k_MOST_WIDTH
  refine calZ_of D sc_greatest_columns (n := 3) len_greatest_columns rfl fun f cdv A fr s H vs Q E hG hr h => ?_
  have hu := hu_of hr
  have hu64 := hu64_of hr
  have hu70 := hu70_of hr
  refine ⟨t_greatest_columns K, PSs.nox ?_, enterZ (m := 6) h fun ds Φ st p => ⟨?_, W K ds Φ st p⟩⟩
  · exact (pss_cons (ps_expr (pe_calZ c_check_demands hG (hr.mono (by decide)) (by rfl) (pa_cons (pv 0) (pa_cons (pv 1) pa_nil))))
      (pss_cons (ps_if (pt_not (pt_val (pe_calZ c_is_from_to hG (hr.mono (by decide)) (by rfl) (pa_cons (pv 2) (pa_cons pe_int (pa_cons (pe_glob (v := .int 1000000) rfl k_MOST_WIDTH ⟨_, rfl⟩) pa_nil)))))) (pss_one ps_never) pss_nil)
      (pss_cons (ps_set (i := 3) sc_greatest_columns.nd rfl (Or.inl rfl) (pe_calZ c_least_among hG (hr.mono (by decide)) (by rfl) (pa_cons (pv 0) (pa_cons (pv 1) pa_nil))))
      (pss_cons (ps_if (PW.pt (pw_or (pt_cmpR op_isN (pv 3) pe_non (nomark _)) (pw_or1 (pt_cmpR op_gt (pe_callB (cr_maxT rfl) (by rfl) b_max (by decide +kernel) (pa_cons (pv 3) pa_nil)) (pv 2) (nomark _))))) (pss_one (ps_ret pe_non)) pss_nil)
      (pss_cons (ps_setLc (i := 4) (own := [("place", 5), ("other", 6), ("weight", 7)]) rfl sc_greatest_columns.nd rfl rfl (sw_true rfl rfl rfl (by decide +kernel)) (pi_tup (pv 1)) (blkOk_by (own := [("place", 5), ("other", 6), ("weight", 7)]) (N := N_greatest_columns) (sc := defScope s_greatest_columns) (by decide +kernel)) (fun _ _ _ _ _ => (pg_tup rfl (pgs_cons (pg_name (i := 5) sc_greatest_columns.nd rfl (Or.inl rfl)) (pgs_cons (pg_name (i := 6) sc_greatest_columns.nd rfl (Or.inl rfl)) (pgs_cons (pg_name (i := 7) sc_greatest_columns.nd rfl (Or.inl rfl)) pgs_nil))))) (fun _ _ _ _ _ => pts_nil) (fun _ _ _ _ _ => (pe_tup (pa_cons (pv 6) (pa_cons (pv 5) (pa_cons (pv 7) pa_nil))))))
      (pss_one (ps_ret (pe_callTy call_tuple_of (by rfl) b_tuple (by decide +kernel) (pa_cons (pe_lc (own := [("far", 8)]) rfl sc_greatest_columns.nd (pi_list (pe_ix ix_seq (pe_calZ c_raised hG (hr.mono (by decide)) (by rfl) (pa_cons (pv 0) (pa_cons (pv 4) (pa_cons (pe_op op_rep (pe_lst (pa_cons pe_int pa_nil)) (pv 0)) pa_nil)))) pe_int (fun _ _ => rfl))) (blkOk_by (own := [("far", 8)]) (N := N_greatest_columns) (sc := defScope s_greatest_columns) (by decide +kernel)) (fun _ _ _ _ _ => (pg_name (i := 8) sc_greatest_columns.nd rfl (Or.inl rfl))) (fun _ _ _ _ _ => pts_nil) (fun _ _ _ _ _ => (pe_op op_sub (pv 2) (pv 8)))) pa_nil)))))))))
  · rw [len_greatest_columns _ _ p]; decide
/-! columns_with: slots 0 many, 1 demands, 2 place, 3 column*, 4 least, 5 far, 6 one, 7 way -/
abbrev s_columns_with : Stmt := topS 26
abbrev N_columns_with : List Str := ["many", "demands", "place", "column", "least", "far", "one", "way"]
theorem sc_columns_with : FnScope N_columns_with ["many", "demands", "place", "column"] (defScope s_columns_with) := ⟨rfl, rfl, rfl, by decide +kernel, rfl, by decide +kernel, by decide +kernel⟩
theorem ok_columns_with (D : DefZ K mg "columns_with" ["many", "demands", "place", "column"] s_columns_with) (c_check_demands : CalZ P w K mg base 4 "check_demands" ["many", "demands"] false P_check_demands) (c_is_from_to : CalZ P w K mg base 2 "is_from_to" ["value", "least", "most"] false P_is_from_to) (c_least_among : CalZ P w K mg base 2 "least_among" ["many", "demands"] false P_least_among) (c_heaviest_from : CalZ P w K mg base 2 "heaviest_from" ["many", "demands", "place"] false P_heaviest_from) (k_MOST_WIDTH : ∃ tk, mg "MOST_WIDTH" = some (.int 1000000 tk)) (b_zip : mg "zip" = none) (b_max : mg "max" = none) (b_tuple : mg "tuple" = none)
    (W : ∀ (K : PySem.W.Frag) ds Φ s, P_columns_with ds Φ → Ws K (t_columns_with K) (Γ0 false s ds 4) (fun Γ' => Kp false s Γ' ∧ Φ (.dat .none)) (fun Γ' r => Kp false s Γ' ∧ Φ r) (fun _ => False) (fun _ => False)) :
    CalZ P w K mg base 5 "columns_with" ["many", "demands", "place", "column"] false P_columns_with := by
  obtain ⟨_, k_MOST_WIDTH⟩ := k_MOST_WIDTH
  refine calZ_of D sc_columns_with (n := 4) len_columns_with rfl fun f cdv A fr s H vs Q E hG hr h => ?_
  have hu := hu_of hr
  have hu64 := hu64_of hr
  have hu70 := hu70_of hr
  refine ⟨t_columns_with K, PSs.nox ?_, enterZ (m := 4) h fun ds Φ st p => ⟨?_, W K ds Φ st p⟩⟩
  · exact (pss_cons (ps_expr (pe_calZ c_check_demands hG (hr.mono (by decide)) (by rfl) (pa_cons (pv 0) (pa_cons (pv 1) pa_nil))))
      (pss_cons (ps_if (pt_not (pt_val (pe_calZ c_is_from_to hG (hr.mono (by decide)) (by rfl) (pa_cons (pv 2) (pa_cons pe_int (pa_cons (pe_op op_sub (pv 0) pe_int) pa_nil)))))) (pss_one ps_never) pss_nil)
      (pss_cons (ps_if (pt_not (pt_val (pe_calZ c_is_from_to hG (hr.mono (by decide)) (by rfl) (pa_cons (pv 3) (pa_cons pe_int (pa_cons (pe_glob (v := .int 1000000) rfl k_MOST_WIDTH ⟨_, rfl⟩) pa_nil)))))) (pss_one ps_never) pss_nil)
      (pss_cons (ps_set (i := 4) sc_columns_with.nd rfl (Or.inl rfl) (pe_calZ c_least_among hG (hr.mono (by decide)) (by rfl) (pa_cons (pv 0) (pa_cons (pv 1) pa_nil))))
      (pss_cons (ps_if (PW.pt (pw_or (pt_cmpR op_isN (pv 4) pe_non (nomark _)) (pw_or1 (pt_cmpR op_gt (pe_ix ix_seq (pv 4) (pv 2) (fun _ _ => rfl)) (pv 3) (nomark _))))) (pss_one (ps_ret pe_non)) pss_nil)
      (pss_cons (ps_set (i := 5) sc_columns_with.nd rfl (Or.inl rfl) (pe_ix ix_seq (pe_calZ c_heaviest_from hG (hr.mono (by decide)) (by rfl) (pa_cons (pv 0) (pa_cons (pv 1) (pa_cons (pv 2) pa_nil)))) pe_int (fun _ _ => rfl)))
      (pss_one (ps_ret (pe_callTy call_tuple_of (by rfl) b_tuple (by decide +kernel) (pa_cons (pe_lc (own := [("one", 6), ("way", 7)]) rfl sc_columns_with.nd (pi_zipQ (by rfl) b_zip (pa_cons (pv 4) (pa_cons (pv 5) pa_nil))) (blkOk_by (own := [("one", 6), ("way", 7)]) (N := N_columns_with) (sc := defScope s_columns_with) (by decide +kernel)) (fun _ _ _ _ _ => (pg_tup rfl (pgs_cons (pg_name (i := 6) sc_columns_with.nd rfl (Or.inl rfl)) (pgs_cons (pg_name (i := 7) sc_columns_with.nd rfl (Or.inl rfl)) pgs_nil)))) (fun _ _ _ _ _ => pts_nil) (fun _ _ _ _ _ => (pe_ifExp (pt_cmpR op_isN (pv 7) pe_non (nomark _)) (pv 6) (pe_callB (call_max2 rfl) (by rfl) b_max (by decide +kernel) (pa_cons (pv 6) (pa_cons (pe_op op_add (pv 3) (pv 7)) pa_nil)))))) pa_nil))))))))))
  · rw [len_columns_with _ _ p]; decide
/-! _law_stream: slots 0 script -/
abbrev s__law_stream : Stmt := topS 28
abbrev N__law_stream : List Str := ["script"]
theorem sc__law_stream : FnScope N__law_stream ["script"] (defScope s__law_stream) := ⟨rfl, rfl, rfl, by decide +kernel, rfl, by decide +kernel, by decide +kernel⟩
theorem ok__law_stream (D : DefZ K mg "_law_stream" ["script"] s__law_stream) (b_list : mg "list" = none) : CalS P w K mg base := by
  obtain ⟨f, fd, F, hm, hb⟩ := D
  refine ⟨f, fd, okG F sc__law_stream (fun vs H Q E h => ?_) (fun cdv A fr s H vs Q E hG hr h => ⟨t__law_stream K, PSs.nox ?_, rd_stream h⟩), hm, F.kp, hb⟩
  · obtain ⟨a, ns, rfl, _⟩ := h
    rfl
  · exact (pss_one (ps_ret (pe_lst (pa_cons (pe_callTy call_list_of (by rfl) b_list (by decide +kernel) (pa_cons (pv 0) pa_nil)) (pa_cons pe_int (pa_cons pe_int pa_nil))))))
/-! _law_next: slots 0 stream, 1 many, 2 k, 3 cell, 4 digit -/
abbrev s__law_next : Stmt := topS 29
abbrev N__law_next : List Str := ["stream", "many", "k", "cell", "digit"]
theorem sc__law_next : FnScope N__law_next ["stream", "many"] (defScope s__law_next) := ⟨rfl, rfl, rfl, by decide +kernel, rfl, by decide +kernel, by decide +kernel⟩
theorem ok__law_next (D : DefZ K mg "_law_next" ["stream", "many"] s__law_next) (b_len : mg "len" = none) (b_abs : mg "abs" = none) (b_int : mg "int" = none)
    (W : ∀ (K : PySem.W.Frag) ds Φ s, P__law_next ds Φ → Ws K (t__law_next K) (Γ0 true s ds 3) (fun Γ' => Kp true s Γ' ∧ Φ (.dat .none)) (fun Γ' r => Kp true s Γ' ∧ Φ r) (fun _ => False) (fun _ => False)) :
    CalZ P w K mg base 1 "_law_next" ["stream", "many"] true P__law_next := by
  refine calZ_of D sc__law_next (n := 1) len__law_next rfl fun f cdv A fr s H vs Q E hG hr h => ?_
  have hu := hu_of hr
  have hu64 := hu64_of hr
  have hu70 := hu70_of hr
  refine ⟨t__law_next K, PSs.nox ?_, enterZ (m := 3) h fun ds Φ st p => ⟨?_, W K ds Φ st p⟩⟩
  · exact (pss_cons (ps_if (pt_cmpR (op_eqD hu64) (pe_ix ix_seq (pv 0) pe_int (fun _ _ => rfl)) pe_int (nomark _)) (pss_cons (ps_set (i := 2) sc__law_next.nd rfl (Or.inl rfl) (pe_ix ix_seq (pv 0) pe_int (fun _ _ => rfl)))
      (pss_cons (ps_set (i := 3) sc__law_next.nd rfl (Or.inl rfl) (pe_op op_add pe_int (pv 2)))
      (pss_cons (ps_if (pt_cmpR op_lt (pv 2) (pe_callB call_len_seq (by rfl) b_len (by decide +kernel) (pa_cons (pe_ix ix_seq (pv 0) pe_int (fun _ _ => rfl)) pa_nil)) (nomark _)) (pss_one (ps_set (i := 3) sc__law_next.nd rfl (Or.inl rfl) (pe_op op_mod (pe_callTy call_int1 (by rfl) b_int (by decide +kernel) (pa_cons (pe_callB call_abs (by rfl) b_abs (by decide +kernel) (pa_cons (pe_ix ix_seq (pe_ix ix_seq (pv 0) pe_int (fun _ _ => rfl)) (pv 2) (fun _ _ => rfl)) pa_nil)) pa_nil)) (pe_op op_pow pe_int pe_int)))) pss_nil)
      (pss_cons (ps_if (pt_cmpR op_lt (pv 3) (pe_op op_pow pe_int pe_int) (nomark _)) (pss_cons (ps_set (i := 3) sc__law_next.nd rfl (Or.inl rfl) (pe_op op_mod (pe_callTy call_int1 (by rfl) b_int (by decide +kernel) (pa_cons (pe_op op_add (pe_op op_add (pe_op op_mul (pv 3) pe_int) (pe_op op_mul (pv 2) pe_int)) pe_int) pa_nil)) pe_int))
      (pss_one (ps_set (i := 3) sc__law_next.nd rfl (Or.inl rfl) (pe_op op_add (pe_op op_mul (pe_op op_mod (pe_callTy call_int1 (by rfl) b_int (by decide +kernel) (pa_cons (pe_op op_add (pe_op op_mul (pv 3) pe_int) pe_int) pa_nil)) pe_int) pe_int) (pv 3))))) pss_nil)
      (pss_cons (ps_asg (pv 3) (pg_sub (pv 0) pe_int set_list))
      (pss_one (ps_asg (pe_op op_add (pv 2) pe_int) (pg_sub (pv 0) pe_int set_list)))))))) pss_nil)
      (pss_cons (ps_set (i := 4) sc__law_next.nd rfl (Or.inl rfl) (pe_op op_mod (pe_callTy call_int1 (by rfl) b_int (by decide +kernel) (pa_cons (pe_ix ix_seq (pv 0) pe_int (fun _ _ => rfl)) pa_nil)) (pv 1)))
      (pss_cons (ps_asg (pe_op op_fdiv (pe_ix ix_seq (pv 0) pe_int (fun _ _ => rfl)) (pv 1)) (pg_sub (pv 0) pe_int set_list))
      (pss_one (ps_ret (pv 4))))))
  · rw [len__law_next _ _ p]; decide
/-! _law_pick: slots 0 stream, 1 rows -/
abbrev s__law_pick : Stmt := topS 30
abbrev N__law_pick : List Str := ["stream", "rows"]
theorem sc__law_pick : FnScope N__law_pick ["stream", "rows"] (defScope s__law_pick) := ⟨rfl, rfl, rfl, by decide +kernel, rfl, by decide +kernel, by decide +kernel⟩
theorem ok__law_pick (D : DefZ K mg "_law_pick" ["stream", "rows"] s__law_pick) (c__law_next : CalZ P w K mg base 1 "_law_next" ["stream", "many"] true P__law_next) (b_len : mg "len" = none)
    (W : ∀ (K : PySem.W.Frag) ds Φ s, P__law_pick ds Φ → Ws K (t__law_pick K) (Γ0 true s ds 0) (fun Γ' => Kp true s Γ' ∧ Φ (.dat .none)) (fun Γ' r => Kp true s Γ' ∧ Φ r) (fun _ => False) (fun _ => False)) :
    CalZ P w K mg base 2 "_law_pick" ["stream", "rows"] true P__law_pick := by
  refine calZ_of D sc__law_pick (n := 1) len__law_pick rfl fun f cdv A fr s H vs Q E hG hr h => ?_
  have hu := hu_of hr
  have hu64 := hu64_of hr
  have hu70 := hu70_of hr
  refine ⟨t__law_pick K, PSs.nox ?_, enterZ (m := 0) h fun ds Φ st p => ⟨?_, W K ds Φ st p⟩⟩
  · exact (pss_one (ps_ret (pe_ix ix_seq (pv 1) (pe_calZ c__law_next hG (hr.mono (by decide)) (by rfl) (pa_cons (pv 0) (pa_cons (pe_callB call_len_seq (by rfl) b_len (by decide +kernel) (pa_cons (pv 1) pa_nil)) pa_nil))) (fun _ _ => rfl))))
  · rw [len__law_pick _ _ p]; decide
/-! _law_shuffled: slots 0 stream, 1 rows, 2 left, 3 found, 4 turn -/
abbrev s__law_shuffled : Stmt := topS 31
abbrev N__law_shuffled : List Str := ["stream", "rows", "left", "found", "turn"]
theorem sc__law_shuffled : FnScope N__law_shuffled ["stream", "rows"] (defScope s__law_shuffled) := ⟨rfl, rfl, rfl, by decide +kernel, rfl, by decide +kernel, by decide +kernel⟩
theorem ok__law_shuffled (D : DefZ K mg "_law_shuffled" ["stream", "rows"] s__law_shuffled) (c__law_next : CalZ P w K mg base 1 "_law_next" ["stream", "many"] true P__law_next) (b_list : mg "list" = none) (b_len : mg "len" = none) (b_range : mg "range" = none)
    (W : ∀ (K : PySem.W.Frag) ds Φ s, P__law_shuffled ds Φ → Ws K (t__law_shuffled K) (Γ0 true s ds 3) (fun Γ' => Kp true s Γ' ∧ Φ (.dat .none)) (fun Γ' r => Kp true s Γ' ∧ Φ r) (fun _ => False) (fun _ => False)) :
    CalZ P w K mg base 2 "_law_shuffled" ["stream", "rows"] true P__law_shuffled := by
  refine calZ_of D sc__law_shuffled (n := 1) len__law_shuffled rfl fun f cdv A fr s H vs Q E hG hr h => ?_
  have hu := hu_of hr
  have hu64 := hu64_of hr
  have hu70 := hu70_of hr
  refine ⟨t__law_shuffled K, PSs.nox ?_, enterZ (m := 3) h fun ds Φ st p => ⟨?_, W K ds Φ st p⟩⟩
  · exact (pss_cons (ps_par (i := 2) (j := 3) rfl sc__law_shuffled.nd rfl rfl (by decide) rfl rfl (pa_cons (pe_callTy call_list_of (by rfl) b_list (by decide +kernel) (pa_cons (pv 1) pa_nil)) (pa_cons (pe_lst pa_nil) pa_nil)) (by rfl))
      (pss_cons (ps_for PassesOwn.never rfl (pi_range1 rfl b_range (pa_cons (pe_callB call_len_seq (by rfl) b_len (by decide +kernel) (pa_cons (pv 1) pa_nil)) pa_nil)) (pg_name (i := 4) sc__law_shuffled.nd rfl (Or.inl rfl)) (pss_one (ps_expr (pe_bm PySem.F.plainAttrs_list PySem.F.slot_list_append PySem.F.type_list_append mt_append (pv 3) (pa_cons (pe_bm PySem.F.plainAttrs_list PySem.F.slot_list_pop PySem.F.type_list_pop mt_popAt (pv 2) (pa_cons (pe_calZ c__law_next hG (hr.mono (by decide)) (by rfl) (pa_cons (pv 0) (pa_cons (pe_callB call_len_seq (by rfl) b_len (by decide +kernel) (pa_cons (pv 2) pa_nil)) pa_nil))) pa_nil)) pa_nil)))))
      (pss_one (ps_ret (pv 3)))))
  · rw [len__law_shuffled _ _ p]; decide
/-! _law_plain: slots 0 value, 1 left, 2 turn, 3 one -/
abbrev s__law_plain : Stmt := topS 32
abbrev N__law_plain : List Str := ["value", "left", "turn", "one"]
theorem sc__law_plain : FnScope N__law_plain ["value"] (defScope s__law_plain) := ⟨rfl, rfl, rfl, by decide +kernel, rfl, by decide +kernel, by decide +kernel⟩
theorem ok__law_plain (D : DefZ K mg "_law_plain" ["value"] s__law_plain) (b_range : mg "range" = none) (b_len : mg "len" = none) (b_tuple : mg "tuple" = none) (b_isinstance : mg "isinstance" = none) (b_list : mg "list" = none) (b_int : mg "int" = none) (b_str : mg "str" = none)
    (W : ∀ (K : PySem.W.Frag) ds Φ s, P__law_plain ds Φ → Ws K (t__law_plain K) (Γ0 false s ds 3) (fun Γ' => Kp false s Γ' ∧ Φ (.dat .none)) (fun Γ' r => Kp false s Γ' ∧ Φ r) (fun _ => False) (fun _ => False)) :
    CalZ P w K mg base 1 "_law_plain" ["value"] false P__law_plain := by
  refine calZ_of D sc__law_plain (n := 1) len__law_plain rfl fun f cdv A fr s H vs Q E hG hr h => ?_
  have hu := hu_of hr
  have hu64 := hu64_of hr
  have hu70 := hu70_of hr
  refine ⟨t__law_plain K, PSs.nox ?_, enterZ (m := 3) h fun ds Φ st p => ⟨?_, W K ds Φ st p⟩⟩
  · exact (pss_cons (ps_set (i := 1) sc__law_plain.nd rfl (Or.inl rfl) (pe_lst (pa_cons (pv 0) pa_nil)))
      (pss_cons (ps_for PassesOwn.never rfl (pi_range1 rfl b_range (pa_cons (pe_op op_pow pe_int pe_int) pa_nil)) (pg_name (i := 2) sc__law_plain.nd rfl (Or.inl rfl)) (pss_cons (ps_if (pt_cmpR (op_eqD hu64) (pe_callB call_len_seq (by rfl) b_len (by decide +kernel) (pa_cons (pv 1) pa_nil)) pe_int (nomark _)) (pss_one (ps_ret pe_bl)) pss_nil)
      (pss_cons (ps_set (i := 3) sc__law_plain.nd rfl (Or.inl rfl) (pe_bm0 PySem.F.plainAttrs_list PySem.F.slot_list_pop PySem.F.type_list_pop mt_pop (pv 1)))
      (pss_one (ps_if (pt_val (pe_callB call_isi (by rfl) b_isinstance (by decide +kernel) (pa_cons (pv 3) (pa_cons (pe_bltn (v := .ty "tuple") (by rfl) b_tuple (by decide +kernel) rfl) pa_nil)))) (pss_one (ps_expr (pe_bm PySem.F.plainAttrs_list PySem.F.slot_list_extend PySem.F.type_list_extend mt_extend (pv 1) (pa_cons (pe_callTy call_list_of (by rfl) b_list (by decide +kernel) (pa_cons (pv 3) pa_nil)) pa_nil)))) (pss_one (ps_if (PW.pt (pw_and (pt_cmpR op_notN (pv 3) pe_non (nomark _)) (pw_and (pt_not (pt_val (pe_callB call_isi (by rfl) b_isinstance (by decide +kernel) (pa_cons (pv 3) (pa_cons (pe_bltn (v := .ty "str") (by rfl) b_str (by decide +kernel) rfl) pa_nil))))) (pw_and1 (pt_not (pt_val (pe_callB call_isi (by rfl) b_isinstance (by decide +kernel) (pa_cons (pv 3) (pa_cons (pe_bltn (v := .ty "int") (by rfl) b_int (by decide +kernel) rfl) pa_nil))))))))) (pss_one (ps_ret pe_bl)) pss_nil)))))))
      (pss_one (ps_ret pe_bl))))
  · rw [len__law_plain _ _ p]; decide
/-! _law_same: slots 0 value, 1 due -/
abbrev s__law_same : Stmt := topS 33
abbrev N__law_same : List Str := ["value", "due"]
theorem sc__law_same : FnScope N__law_same ["value", "due"] (defScope s__law_same) := ⟨rfl, rfl, rfl, by decide +kernel, rfl, by decide +kernel, by decide +kernel⟩
theorem ok__law_same (D : DefZ K mg "_law_same" ["value", "due"] s__law_same) (c__law_plain : CalZ P w K mg base 1 "_law_plain" ["value"] false P__law_plain) (b_repr : mg "repr" = none)
    (W : ∀ (K : PySem.W.Frag) ds Φ s, P__law_same ds Φ → Ws K (t__law_same K) (Γ0 false s ds 0) (fun Γ' => Kp false s Γ' ∧ Φ (.dat .none)) (fun Γ' r => Kp false s Γ' ∧ Φ r) (fun _ => False) (fun _ => False)) :
    CalZ P w K mg base 2 "_law_same" ["value", "due"] false P__law_same := by
  refine calZ_of D sc__law_same (n := 2) len__law_same rfl fun f cdv A fr s H vs Q E hG hr h => ?_
  have hu := hu_of hr
  have hu64 := hu64_of hr
  have hu70 := hu70_of hr
  refine ⟨t__law_same K, PSs.nox ?_, enterZ (m := 0) h fun ds Φ st p => ⟨?_, W K ds Φ st p⟩⟩
  · exact (pss_one (ps_ret (pe_and (pe_calZ c__law_plain hG (hr.mono (by decide)) (by rfl) (pa_cons (pv 0) pa_nil)) (pe_one (pe_cmpR op_eq (pe_callB (call_reprD hG hu70) (by rfl) b_repr (by decide +kernel) (pa_cons (pv 0) pa_nil)) (pe_callB (call_reprD hG hu70) (by rfl) b_repr (by decide +kernel) (pa_cons (pv 1) pa_nil)) (nomark _))))))
  · rw [len__law_same _ _ p]; decide
/-! _law_broken: slots 0 columns*, 1 demands*, 2 at -/
abbrev s__law_broken : Stmt := topS 34
abbrev N__law_broken : List Str := ["columns", "demands", "at"]
theorem sc__law_broken : FnScope N__law_broken ["columns", "demands"] (defScope s__law_broken) := ⟨rfl, rfl, rfl, by decide +kernel, rfl, by decide +kernel, by decide +kernel⟩
theorem ok__law_broken (D : DefZ K mg "_law_broken" ["columns", "demands"] s__law_broken) (b_len : mg "len" = none) (b_range : mg "range" = none) (b_tuple : mg "tuple" = none)
    (W : ∀ (K : PySem.W.Frag) ds Φ s, P__law_broken ds Φ → Ws K (t__law_broken K) (Γ0 false s ds 1) (fun Γ' => Kp false s Γ' ∧ Φ (.dat .none)) (fun Γ' r => Kp false s Γ' ∧ Φ r) (fun _ => False) (fun _ => False)) :
    CalZ P w K mg base 1 "_law_broken" ["columns", "demands"] false P__law_broken := by
  refine calZ_of D sc__law_broken (n := 2) len__law_broken rfl fun f cdv A fr s H vs Q E hG hr h => ?_
  have hu := hu_of hr
  have hu64 := hu64_of hr
  have hu70 := hu70_of hr
  refine ⟨t__law_broken K, PSs.nox ?_, enterZ (m := 1) h fun ds Φ st p => ⟨?_, W K ds Φ st p⟩⟩
  · exact (pss_one (ps_ret (pe_callTy call_tuple_of (by rfl) b_tuple (by decide +kernel) (pa_cons (pe_lc (own := [("at", 2)]) rfl sc__law_broken.nd (pi_range1 rfl b_range (pa_cons (pe_callB call_len_seq (by rfl) b_len (by decide +kernel) (pa_cons (pv 1) pa_nil)) pa_nil)) (blkOk_by (own := [("at", 2)]) (N := N__law_broken) (sc := defScope s__law_broken) (by decide +kernel)) (fun _ _ _ _ _ => (pg_name (i := 2) sc__law_broken.nd rfl (Or.inl rfl))) (fun _ _ _ _ _ => (pts_one (pt_cmpR op_lt (pe_ix ix_seq (pv 0) (pe_ix ix_seq (pe_ix ix_seq (pv 1) (pv 2) (fun _ _ => rfl)) pe_int (fun _ _ => rfl)) (fun _ _ => rfl)) (pe_op op_add (pe_ix ix_seq (pv 0) (pe_ix ix_seq (pe_ix ix_seq (pv 1) (pv 2) (fun _ _ => rfl)) pe_int (fun _ _ => rfl)) (fun _ _ => rfl)) (pe_ix ix_seq (pe_ix ix_seq (pv 1) (pv 2) (fun _ _ => rfl)) pe_int (fun _ _ => rfl))) (nomark _)))) (fun _ _ _ _ _ => (pv 2))) pa_nil))))
  · rw [len__law_broken _ _ p]; decide
/-! _law_layers: slots 0 stream*, 1 many, 2 sizes, 3 left, 4 layers, 5 demands, 6 size, 7 at, 8 high*, 9 x*, 10 y -/
abbrev s__law_layers : Stmt := topS 35
abbrev N__law_layers : List Str := ["stream", "many", "sizes", "left", "layers", "demands", "size", "at", "high", "x", "y"]
theorem sc__law_layers : FnScope N__law_layers ["stream", "many"] (defScope s__law_layers) := ⟨rfl, rfl, rfl, by decide +kernel, rfl, by decide +kernel, by decide +kernel⟩
theorem ok__law_layers (D : DefZ K mg "_law_layers" ["stream", "many"] s__law_layers) (c__law_next : CalZ P w K mg base 1 "_law_next" ["stream", "many"] true P__law_next) (c__law_shuffled : CalZ P w K mg base 2 "_law_shuffled" ["stream", "rows"] true P__law_shuffled) (c__law_pick : CalZ P w K mg base 2 "_law_pick" ["stream", "rows"] true P__law_pick) (b_range : mg "range" = none) (b_sum : mg "sum" = none) (b_list : mg "list" = none)
    (W : ∀ (K : PySem.W.Frag) ds Φ s, P__law_layers ds Φ → Ws K (t__law_layers K) (Γ0 true s ds 9) (fun Γ' => Kp true s Γ' ∧ Φ (.dat .none)) (fun Γ' r => Kp true s Γ' ∧ Φ r) (fun _ => False) (fun _ => False)) :
    CalZ P w K mg base 3 "_law_layers" ["stream", "many"] true P__law_layers := by
  refine calZ_of D sc__law_layers (n := 1) len__law_layers rfl fun f cdv A fr s H vs Q E hG hr h => ?_
  have hu := hu_of hr
  have hu64 := hu64_of hr
  have hu70 := hu70_of hr
  refine ⟨t__law_layers K, PSs.nox ?_, enterZ (m := 9) h fun ds Φ st p => ⟨?_, W K ds Φ st p⟩⟩
  · exact (pss_cons (ps_setLc (i := 2) (own := [("at", 7)]) rfl sc__law_layers.nd rfl rfl (sw_true rfl rfl rfl (by decide +kernel)) (pi_range1 rfl b_range (pa_cons (pv 1) pa_nil)) (blkOk_by (own := [("at", 7)]) (N := N__law_layers) (sc := defScope s__law_layers) (by decide +kernel)) (fun _ _ _ _ _ => (pg_name (i := 7) sc__law_layers.nd rfl (Or.inl rfl))) (fun _ _ _ _ _ => pts_nil) (fun _ _ _ _ _ => (pe_op op_add pe_int (pe_calZ c__law_next hG (hr.mono (by decide)) (by rfl) (pa_cons (pv 0) (pa_cons pe_int pa_nil))))))
      (pss_cons (ps_par3 (i := 3) (j := 4) (l := 5) rfl sc__law_layers.nd rfl rfl rfl (by decide) (by decide) (by decide) rfl rfl rfl (pa_cons (pe_calZ c__law_shuffled hG (hr.mono (by decide)) (by rfl) (pa_cons (pv 0) (pa_cons (pe_listRg rfl (by rfl) b_list (prg_1 (by rfl) b_range (pe_callB (cr_sum rfl) (by rfl) b_sum (by decide +kernel) (pa_cons (pv 2) pa_nil)))) pa_nil))) (pa_cons (pe_lst pa_nil) (pa_cons (pe_lst pa_nil) pa_nil))) (by rfl))
      (pss_cons (ps_for PassesOwn.never rfl (pi_list (pv 2)) (pg_name (i := 6) sc__law_layers.nd rfl (Or.inl rfl)) (pss_cons (ps_expr (pe_bm PySem.F.plainAttrs_list PySem.F.slot_list_append PySem.F.type_list_append mt_append (pv 4) (pa_cons (pe_slice sl_list (pv 3) po_none (po_some (pv 6))) pa_nil)))
      (pss_one (ps_set (i := 3) sc__law_layers.nd rfl (Or.inl rfl) (pe_slice sl_list (pv 3) (po_some (pv 6)) po_none)))))
      (pss_cons (ps_for PassesOwn.never rfl (pi_range2 rfl b_range (pa_cons pe_int (pa_cons (pv 1) pa_nil))) (pg_name (i := 7) sc__law_layers.nd rfl (Or.inl rfl)) (pss_cons (ps_set (i := 8) sc__law_layers.nd rfl (Or.inr rfl) (pe_calZ c__law_pick hG (hr.mono (by decide)) (by rfl) (pa_cons (pv 0) (pa_cons (pe_lst (pa_cons pe_int (pa_cons pe_int (pa_cons pe_int pa_nil)))) pa_nil))))
      (pss_one (ps_for PassesOwn.never rfl (pi_list (pe_ix ix_seq (pv 4) (pv 7) (fun _ _ => rfl))) (pg_name (i := 9) sc__law_layers.nd rfl (Or.inr rfl)) (pss_one (ps_expr (pe_bm PySem.F.plainAttrs_list PySem.F.slot_list_extend PySem.F.type_list_extend mt_extend (pv 5) (pa_cons (pe_lc (own := [("y", 10)]) rfl sc__law_layers.nd (pi_list (pe_ix ix_seq (pv 4) (pe_op op_sub (pv 7) pe_int) (fun _ _ => rfl))) (blkOk_by (own := [("y", 10)]) (N := N__law_layers) (sc := defScope s__law_layers) (by decide +kernel)) (fun _ _ _ _ _ => (pg_name (i := 10) sc__law_layers.nd rfl (Or.inl rfl))) (fun _ _ _ _ _ => pts_nil) (fun _ _ _ _ _ => (pe_tup (pa_cons (pv 9) (pa_cons (pv 10) (pa_cons (pe_calZ c__law_next hG (hr.mono (by decide)) (by rfl) (pa_cons (pv 0) (pa_cons (pv 8) pa_nil))) pa_nil)))))) pa_nil))))))))
      (pss_one (ps_ret (pe_tup (pa_cons (pe_calZ c__law_shuffled hG (hr.mono (by decide)) (by rfl) (pa_cons (pv 0) (pa_cons (pv 5) pa_nil))) (pa_cons (pv 4) pa_nil)))))))))
  · rw [len__law_layers _ _ p]; decide
/-! _law_cells: slots 0 stream*, 1 high, 2 wide, 3 spots, 4 number*, 5 demands, 6 r*, 7 at, 8 limit*, 9 c*, 10 layers, 11 one -/
abbrev s__law_cells : Stmt := topS 36
abbrev N__law_cells : List Str := ["stream", "high", "wide", "spots", "number", "demands", "r", "at", "limit", "c", "layers", "one"]
theorem sc__law_cells : FnScope N__law_cells ["stream", "high", "wide"] (defScope s__law_cells) := ⟨rfl, rfl, rfl, by decide +kernel, rfl, by decide +kernel, by decide +kernel⟩
theorem ok__law_cells (D : DefZ K mg "_law_cells" ["stream", "high", "wide"] s__law_cells) (c__law_shuffled : CalZ P w K mg base 2 "_law_shuffled" ["stream", "rows"] true P__law_shuffled) (c__law_pick : CalZ P w K mg base 2 "_law_pick" ["stream", "rows"] true P__law_pick) (c__law_next : CalZ P w K mg base 1 "_law_next" ["stream", "many"] true P__law_next) (b_range : mg "range" = none) (b_len : mg "len" = none)
    (W : ∀ (K : PySem.W.Frag) ds Φ s, P__law_cells ds Φ → Ws K (t__law_cells K) (Γ0 true s ds 9) (fun Γ' => Kp true s Γ' ∧ Φ (.dat .none)) (fun Γ' r => Kp true s Γ' ∧ Φ r) (fun _ => False) (fun _ => False)) :
    CalZ P w K mg base 3 "_law_cells" ["stream", "high", "wide"] true P__law_cells := by
  refine calZ_of D sc__law_cells (n := 2) len__law_cells rfl fun f cdv A fr s H vs Q E hG hr h => ?_
  have hu := hu_of hr
  have hu64 := hu64_of hr
  have hu70 := hu70_of hr
  refine ⟨t__law_cells K, PSs.nox ?_, enterZ (m := 9) h fun ds Φ st p => ⟨?_, W K ds Φ st p⟩⟩
  · exact (pss_cons (ps_asg (pe_tup (pa_cons (pe_lst pa_nil) (pa_cons pe_dnewT (pa_cons (pe_lst pa_nil) pa_nil)))) (pg_tup rfl (pgs_cons (pg_name (i := 3) sc__law_cells.nd rfl (Or.inl rfl)) (pgs_cons (pg_name (i := 4) sc__law_cells.nd rfl (Or.inr rfl)) (pgs_cons (pg_name (i := 5) sc__law_cells.nd rfl (Or.inl rfl)) pgs_nil)))))
      (pss_cons (ps_for PassesOwn.never rfl (pi_range1 rfl b_range (pa_cons (pv 1) pa_nil)) (pg_name (i := 6) sc__law_cells.nd rfl (Or.inr rfl)) (pss_one (ps_set (i := 3) sc__law_cells.nd rfl (Or.inl rfl) (pe_op op_cat (pv 3) (pe_lc (own := [("c", 9)]) rfl sc__law_cells.nd (pi_range1 rfl b_range (pa_cons (pv 2) pa_nil)) (blkOk_by (own := [("c", 9)]) (N := N__law_cells) (sc := defScope s__law_cells) (by decide +kernel)) (fun _ _ _ _ _ => (pg_name (i := 9) sc__law_cells.nd rfl (Or.inl rfl))) (fun _ _ _ _ _ => pts_nil) (fun _ _ _ _ _ => (pe_tup (pa_cons (pv 6) (pa_cons (pv 9) pa_nil)))))))))
      (pss_cons (ps_set (i := 3) sc__law_cells.nd rfl (Or.inl rfl) (pe_calZ c__law_shuffled hG (hr.mono (by decide)) (by rfl) (pa_cons (pv 0) (pa_cons (pv 3) pa_nil))))
      (pss_cons (ps_for PassesOwn.never rfl (pi_range1 rfl b_range (pa_cons (pe_callB call_len_seq (by rfl) b_len (by decide +kernel) (pa_cons (pv 3) pa_nil)) pa_nil)) (pg_name (i := 7) sc__law_cells.nd rfl (Or.inl rfl)) (pss_one (ps_dput hu (pv 4) (pe_ix ix_seq (pv 3) (pv 7) (fun _ _ => rfl)) (pv 7) rfl)))
      (pss_cons (ps_set (i := 8) sc__law_cells.nd rfl (Or.inr rfl) (pe_calZ c__law_pick hG (hr.mono (by decide)) (by rfl) (pa_cons (pv 0) (pa_cons (pe_lst (pa_cons pe_int (pa_cons pe_int (pa_cons pe_int pa_nil)))) pa_nil))))
      (pss_cons (ps_for PassesOwn.never rfl (pi_list (pv 3)) (pg_tup rfl (pgs_cons (pg_name (i := 6) sc__law_cells.nd rfl (Or.inr rfl)) (pgs_cons (pg_name (i := 9) sc__law_cells.nd rfl (Or.inr rfl)) pgs_nil))) (pss_one (ps_expr (pe_bm PySem.F.plainAttrs_list PySem.F.slot_list_extend PySem.F.type_list_extend mt_extend (pv 5) (pa_cons (pe_lc (own := [("one", 11)]) rfl sc__law_cells.nd (pi_list (pe_lst (pa_cons (pe_tup (pa_cons (pv 6) (pa_cons (pe_op op_add (pv 9) pe_int) pa_nil))) (pa_cons (pe_tup (pa_cons (pe_op op_add (pv 6) pe_int) (pa_cons (pv 9) pa_nil))) pa_nil)))) (blkOk_by (own := [("one", 11)]) (N := N__law_cells) (sc := defScope s__law_cells) (by decide +kernel)) (fun _ _ _ _ _ => (pg_name (i := 11) sc__law_cells.nd rfl (Or.inl rfl))) (fun _ _ _ _ _ => (pts_one (pt_cmp (pc_din hu (pv 11) (pv 4)) rfl))) (fun _ _ _ _ _ => (pe_tup (pa_cons (pe_dget hu (pv 4) (pv 11) (fun _ _ => rfl)) (pa_cons (pe_dget hu (pv 4) (pe_tup (pa_cons (pv 6) (pa_cons (pv 9) pa_nil))) (fun _ _ => rfl)) (pa_cons (pe_calZ c__law_next hG (hr.mono (by decide)) (by rfl) (pa_cons (pv 0) (pa_cons (pv 8) pa_nil))) pa_nil)))))) pa_nil)))))
      (pss_cons (ps_setLc (i := 10) (own := [("at", 7)]) rfl sc__law_cells.nd rfl rfl (sw_true rfl rfl rfl (by decide +kernel)) (pi_range1 rfl b_range (pa_cons (pe_op op_sub (pe_op op_add (pv 1) (pv 2)) pe_int) pa_nil)) (blkOk_by (own := [("at", 7)]) (N := N__law_cells) (sc := defScope s__law_cells) (by decide +kernel)) (fun _ _ _ _ _ => (pg_name (i := 7) sc__law_cells.nd rfl (Or.inl rfl))) (fun _ _ _ _ _ => pts_nil) (fun _ _ _ _ _ => (pe_lst pa_nil)))
      (pss_cons (ps_for PassesOwn.never rfl (pi_range1 rfl b_range (pa_cons (pe_callB call_len_seq (by rfl) b_len (by decide +kernel) (pa_cons (pv 3) pa_nil)) pa_nil)) (pg_name (i := 7) sc__law_cells.nd rfl (Or.inl rfl)) (pss_one (ps_expr (pe_bm PySem.F.plainAttrs_list PySem.F.slot_list_append PySem.F.type_list_append mt_append (pe_ix ix_seq (pv 10) (pe_op op_add (pe_ix ix_seq (pe_ix ix_seq (pv 3) (pv 7) (fun _ _ => rfl)) pe_int (fun _ _ => rfl)) (pe_ix ix_seq (pe_ix ix_seq (pv 3) (pv 7) (fun _ _ => rfl)) pe_int (fun _ _ => rfl))) (fun _ _ => rfl)) (pa_cons (pv 7) pa_nil)))))
      (pss_one (ps_ret (pe_tup (pa_cons (pe_calZ c__law_shuffled hG (hr.mono (by decide)) (by rfl) (pa_cons (pv 0) (pa_cons (pv 5) pa_nil))) (pa_cons (pv 10) pa_nil)))))))))))))
  · rw [len__law_cells _ _ p]; decide
/-! _law_behind: slots 0 demands, 1 many, 2 to, 3 away, 4 x, 5 y, 6 weight, 7 place -/
abbrev s__law_behind : Stmt := topS 37
abbrev N__law_behind : List Str := ["demands", "many", "to", "away", "x", "y", "weight", "place"]
theorem sc__law_behind : FnScope N__law_behind ["demands", "many"] (defScope s__law_behind) := ⟨rfl, rfl, rfl, by decide +kernel, rfl, by decide +kernel, by decide +kernel⟩
theorem ok__law_behind (D : DefZ K mg "_law_behind" ["demands", "many"] s__law_behind) (b_range : mg "range" = none)
    (W : ∀ (K : PySem.W.Frag) ds Φ s, P__law_behind ds Φ → Ws K (t__law_behind K) (Γ0 false s ds 6) (fun Γ' => Kp false s Γ' ∧ Φ (.dat .none)) (fun Γ' r => Kp false s Γ' ∧ Φ r) (fun _ => False) (fun _ => False)) :
    CalZ P w K mg base 1 "_law_behind" ["demands", "many"] false P__law_behind := by
  refine calZ_of D sc__law_behind (n := 2) len__law_behind rfl fun f cdv A fr s H vs Q E hG hr h => ?_
  have hu := hu_of hr
  have hu64 := hu64_of hr
  have hu70 := hu70_of hr
  refine ⟨t__law_behind K, PSs.nox ?_, enterZ (m := 6) h fun ds Φ st p => ⟨?_, W K ds Φ st p⟩⟩
  · exact (pss_cons (ps_par (i := 2) (j := 3) rfl sc__law_behind.nd rfl rfl (by decide) rfl rfl (pa_cons (pe_lc (own := [("place", 7)]) rfl sc__law_behind.nd (pi_range1 rfl b_range (pa_cons (pv 1) pa_nil)) (blkOk_by (own := [("place", 7)]) (N := N__law_behind) (sc := defScope s__law_behind) (by decide +kernel)) (fun _ _ _ _ _ => (pg_name (i := 7) sc__law_behind.nd rfl (Or.inl rfl))) (fun _ _ _ _ _ => pts_nil) (fun _ _ _ _ _ => (pe_lst pa_nil))) (pa_cons (pe_lc (own := [("place", 7)]) rfl sc__law_behind.nd (pi_range1 rfl b_range (pa_cons (pv 1) pa_nil)) (blkOk_by (own := [("place", 7)]) (N := N__law_behind) (sc := defScope s__law_behind) (by decide +kernel)) (fun _ _ _ _ _ => (pg_name (i := 7) sc__law_behind.nd rfl (Or.inl rfl))) (fun _ _ _ _ _ => pts_nil) (fun _ _ _ _ _ => (pe_lst pa_nil))) pa_nil)) (by rfl))
      (pss_cons (ps_for PassesOwn.never rfl (pi_list (pv 0)) (pg_tup rfl (pgs_cons (pg_name (i := 4) sc__law_behind.nd rfl (Or.inl rfl)) (pgs_cons (pg_name (i := 5) sc__law_behind.nd rfl (Or.inl rfl)) (pgs_cons (pg_name (i := 6) sc__law_behind.nd rfl (Or.inl rfl)) pgs_nil)))) (pss_cons (ps_expr (pe_bm PySem.F.plainAttrs_list PySem.F.slot_list_append PySem.F.type_list_append mt_append (pe_ix ix_seq (pv 2) (pv 4) (fun _ _ => rfl)) (pa_cons (pe_tup (pa_cons (pv 5) (pa_cons (pv 6) pa_nil))) pa_nil)))
      (pss_one (ps_expr (pe_bm PySem.F.plainAttrs_list PySem.F.slot_list_append PySem.F.type_list_append mt_append (pe_ix ix_seq (pv 3) (pv 5) (fun _ _ => rfl)) (pa_cons (pe_tup (pa_cons (pv 4) (pa_cons (pv 6) pa_nil))) pa_nil))))))
      (pss_one (ps_ret (pe_tup (pa_cons (pv 2) (pa_cons (pv 3) pa_nil)))))))
  · rw [len__law_behind _ _ p]; decide
/-! _law_raised: slots 0 layers, 1 to, 2 begin, 3 found*, 4 layer, 5 x, 6 y, 7 weight -/
abbrev s__law_raised : Stmt := topS 38
abbrev N__law_raised : List Str := ["layers", "to", "begin", "found", "layer", "x", "y", "weight"]
theorem sc__law_raised : FnScope N__law_raised ["layers", "to", "begin"] (defScope s__law_raised) := ⟨rfl, rfl, rfl, by decide +kernel, rfl, by decide +kernel, by decide +kernel⟩
theorem ok__law_raised (D : DefZ K mg "_law_raised" ["layers", "to", "begin"] s__law_raised) (b_list : mg "list" = none) (b_max : mg "max" = none)
    (W : ∀ (K : PySem.W.Frag) ds Φ s, P__law_raised ds Φ → Ws K (t__law_raised K) (Γ0 false s ds 5) (fun Γ' => Kp false s Γ' ∧ Φ (.dat .none)) (fun Γ' r => Kp false s Γ' ∧ Φ r) (fun _ => False) (fun _ => False)) :
    CalZ P w K mg base 1 "_law_raised" ["layers", "to", "begin"] false P__law_raised := by
  refine calZ_of D sc__law_raised (n := 3) len__law_raised rfl fun f cdv A fr s H vs Q E hG hr h => ?_
  have hu := hu_of hr
  have hu64 := hu64_of hr
  have hu70 := hu70_of hr
  refine ⟨t__law_raised K, PSs.nox ?_, enterZ (m := 5) h fun ds Φ st p => ⟨?_, W K ds Φ st p⟩⟩
  · exact (pss_cons (ps_set (i := 3) sc__law_raised.nd rfl (Or.inr rfl) (pe_callTy call_list_of (by rfl) b_list (by decide +kernel) (pa_cons (pv 2) pa_nil)))
      (pss_cons (ps_for PassesOwn.never rfl (pi_list (pv 0)) (pg_name (i := 4) sc__law_raised.nd rfl (Or.inl rfl)) (pss_one (ps_for PassesOwn.never rfl (pi_list (pv 4)) (pg_name (i := 5) sc__law_raised.nd rfl (Or.inl rfl)) (pss_one (ps_asg (pe_callB (cr_max rfl) (by rfl) b_max (by decide +kernel) (pa_cons (pe_op op_cat (pe_lst (pa_cons (pe_ix ix_seq (pv 3) (pv 5) (fun _ _ => rfl)) pa_nil)) (pe_lc (own := [("y", 6), ("weight", 7)]) rfl sc__law_raised.nd (pi_list (pe_ix ix_seq (pv 1) (pv 5) (fun _ _ => rfl))) (blkOk_by (own := [("y", 6), ("weight", 7)]) (N := N__law_raised) (sc := defScope s__law_raised) (by decide +kernel)) (fun _ _ _ _ _ => (pg_tup rfl (pgs_cons (pg_name (i := 6) sc__law_raised.nd rfl (Or.inl rfl)) (pgs_cons (pg_name (i := 7) sc__law_raised.nd rfl (Or.inl rfl)) pgs_nil)))) (fun _ _ _ _ _ => pts_nil) (fun _ _ _ _ _ => (pe_op op_add (pe_ix ix_seq (pv 3) (pv 6) (fun _ _ => rfl)) (pv 7))))) pa_nil)) (pg_sub (pv 3) (pv 5) set_list))))))
      (pss_one (ps_ret (pv 3)))))
  · rw [len__law_raised _ _ p]; decide
/-! _law_onward: slots 0 layers, 1 away, 2 many, 3 found*, 4 layer, 5 y, 6 x, 7 weight -/
abbrev s__law_onward : Stmt := topS 39
abbrev N__law_onward : List Str := ["layers", "away", "many", "found", "layer", "y", "x", "weight"]
theorem sc__law_onward : FnScope N__law_onward ["layers", "away", "many"] (defScope s__law_onward) := ⟨rfl, rfl, rfl, by decide +kernel, rfl, by decide +kernel, by decide +kernel⟩
theorem ok__law_onward (D : DefZ K mg "_law_onward" ["layers", "away", "many"] s__law_onward) (b_max : mg "max" = none)
    (W : ∀ (K : PySem.W.Frag) ds Φ s, P__law_onward ds Φ → Ws K (t__law_onward K) (Γ0 false s ds 5) (fun Γ' => Kp false s Γ' ∧ Φ (.dat .none)) (fun Γ' r => Kp false s Γ' ∧ Φ r) (fun _ => False) (fun _ => False)) :
    CalZ P w K mg base 1 "_law_onward" ["layers", "away", "many"] false P__law_onward := by
  refine calZ_of D sc__law_onward (n := 3) len__law_onward rfl fun f cdv A fr s H vs Q E hG hr h => ?_
  have hu := hu_of hr
  have hu64 := hu64_of hr
  have hu70 := hu70_of hr
  refine ⟨t__law_onward K, PSs.nox ?_, enterZ (m := 5) h fun ds Φ st p => ⟨?_, W K ds Φ st p⟩⟩
  · exact (pss_cons (ps_set (i := 3) sc__law_onward.nd rfl (Or.inr rfl) (pe_op op_rep (pe_lst (pa_cons pe_int pa_nil)) (pv 2)))
      (pss_cons (ps_for PassesOwn.never rfl (pi_list (pe_revL (pv 0))) (pg_name (i := 4) sc__law_onward.nd rfl (Or.inl rfl)) (pss_one (ps_for PassesOwn.never rfl (pi_list (pv 4)) (pg_name (i := 5) sc__law_onward.nd rfl (Or.inl rfl)) (pss_one (ps_asg (pe_callB (cr_max rfl) (by rfl) b_max (by decide +kernel) (pa_cons (pe_op op_cat (pe_lst (pa_cons pe_int pa_nil)) (pe_lc (own := [("x", 6), ("weight", 7)]) rfl sc__law_onward.nd (pi_list (pe_ix ix_seq (pv 1) (pv 5) (fun _ _ => rfl))) (blkOk_by (own := [("x", 6), ("weight", 7)]) (N := N__law_onward) (sc := defScope s__law_onward) (by decide +kernel)) (fun _ _ _ _ _ => (pg_tup rfl (pgs_cons (pg_name (i := 6) sc__law_onward.nd rfl (Or.inl rfl)) (pgs_cons (pg_name (i := 7) sc__law_onward.nd rfl (Or.inl rfl)) pgs_nil)))) (fun _ _ _ _ _ => pts_nil) (fun _ _ _ _ _ => (pe_op op_add (pe_ix ix_seq (pv 3) (pv 6) (fun _ _ => rfl)) (pv 7))))) pa_nil)) (pg_sub (pv 3) (pv 5) set_list))))))
      (pss_one (ps_ret (pv 3)))))
  · rw [len__law_onward _ _ p]; decide
/-! _law_is_between: slots 0 stream*, 1 demands, 2 layers, 3 many, 4 asked, 5 to, 6 away, 7 least*, 8 onward*, 9 most*, 10 width*, 11 greatest*, 12 tight, 13 rows, 14 turn, 15 place, 16 column, 17 begin, 18 due*, 19 told, 20 reached*, 21 layer, 22 x, 23 one*, 24 other*, 25 columns, 26 mixed, 27 broken, 28 far, 29 y, 30 weight, 31 at -/
abbrev s__law_is_between : Stmt := topS 40
abbrev N__law_is_between : List Str := ["stream", "demands", "layers", "many", "asked", "to", "away", "least", "onward", "most", "width", "greatest", "tight", "rows", "turn", "place", "column", "begin", "due", "told", "reached", "layer", "x", "one", "other", "columns", "mixed", "broken", "far", "y", "weight", "at"]
theorem sc__law_is_between : FnScope N__law_is_between ["stream", "demands", "layers"] (defScope s__law_is_between) := ⟨rfl, rfl, rfl, by decide +kernel, rfl, by decide +kernel, by decide +kernel⟩
theorem ok__law_is_between (D : DefZ K mg "_law_is_between" ["stream", "demands", "layers"] s__law_is_between) (c__law_behind : CalZ P w K mg base 1 "_law_behind" ["demands", "many"] false P__law_behind) (c__law_onward : CalZ P w K mg base 1 "_law_onward" ["layers", "away", "many"] false P__law_onward) (c__law_raised : CalZ P w K mg base 1 "_law_raised" ["layers", "to", "begin"] false P__law_raised) (c__law_pick : CalZ P w K mg base 2 "_law_pick" ["stream", "rows"] true P__law_pick) (c_greatest_columns : CalZ P w K mg base 5 "greatest_columns" ["many", "demands", "width"] false P_greatest_columns) (c_least_columns : CalZ P w K mg base 5 "least_columns" ["many", "demands"] false P_least_columns) (c__law_same : CalZ P w K mg base 2 "_law_same" ["value", "due"] false P__law_same) (c__law_next : CalZ P w K mg base 1 "_law_next" ["stream", "many"] true P__law_next) (c_columns_with : CalZ P w K mg base 5 "columns_with" ["many", "demands", "place", "column"] false P_columns_with) (c_broken_demands : CalZ P w K mg base 5 "broken_demands" ["many", "demands", "columns"] false P_broken_demands) (c_meets : CalZ P w K mg base 5 "meets" ["many", "demands", "columns"] false P_meets) (c__law_broken : CalZ P w K mg base 1 "_law_broken" ["columns", "demands"] false P__law_broken) (b_tuple : mg "tuple" = none) (b_len : mg "len" = none) (b_sum : mg "sum" = none) (b_max : mg "max" = none) (b_range : mg "range" = none) (b_list : mg "list" = none) (b_any : mg "any" = none) (b_min : mg "min" = none) (b_int : mg "int" = none)
    (W : ∀ (K : PySem.W.Frag) ds Φ s, P__law_is_between ds Φ → Ws K (t__law_is_between K) (Γ0 true s ds 29) (fun Γ' => Kp true s Γ' ∧ Φ (.dat .none)) (fun Γ' r => Kp true s Γ' ∧ Φ r) (fun _ => False) (fun _ => False)) :
    CalZ P w K mg base 6 "_law_is_between" ["stream", "demands", "layers"] true P__law_is_between := by
  refine calZ_of D sc__law_is_between (n := 2) len__law_is_between rfl fun f cdv A fr s H vs Q E hG hr h => ?_
  have hu := hu_of hr
  have hu64 := hu64_of hr
  have hu70 := hu70_of hr
  refine ⟨t__law_is_between K, PSs.nox ?_, enterZ (m := 29) h fun ds Φ st p => ⟨?_, W K ds Φ st p⟩⟩
  · exact (pss_cons (ps_par (i := 3) (j := 4) rfl sc__law_is_between.nd rfl rfl (by decide) rfl rfl (pa_cons (pe_callB (cr_sum rfl) (by rfl) b_sum (by decide +kernel) (pa_cons (pe_lc (own := [("layer", 21)]) rfl sc__law_is_between.nd (pi_list (pv 2)) (blkOk_by (own := [("layer", 21)]) (N := N__law_is_between) (sc := defScope s__law_is_between) (by decide +kernel)) (fun _ _ _ _ _ => (pg_name (i := 21) sc__law_is_between.nd rfl (Or.inl rfl))) (fun _ _ _ _ _ => pts_nil) (fun _ _ _ _ _ => (pe_callB call_len_seq (by rfl) b_len (by decide +kernel) (pa_cons (pv 21) pa_nil)))) pa_nil)) (pa_cons (pe_callTy call_tuple_of (by rfl) b_tuple (by decide +kernel) (pa_cons (pv 1) pa_nil)) pa_nil)) (by rfl))
      (pss_cons (ps_asg (pe_calZ c__law_behind hG (hr.mono (by decide)) (by rfl) (pa_cons (pv 1) (pa_cons (pv 3) pa_nil))) (pg_tup rfl (pgs_cons (pg_name (i := 5) sc__law_is_between.nd rfl (Or.inl rfl)) (pgs_cons (pg_name (i := 6) sc__law_is_between.nd rfl (Or.inl rfl)) pgs_nil))))
      (pss_cons (ps_asg (pe_tup (pa_cons (pe_callTy call_tuple_of (by rfl) b_tuple (by decide +kernel) (pa_cons (pe_calZ c__law_raised hG (hr.mono (by decide)) (by rfl) (pa_cons (pv 2) (pa_cons (pv 5) (pa_cons (pe_op op_rep (pe_lst (pa_cons pe_int pa_nil)) (pv 3)) pa_nil)))) pa_nil)) (pa_cons (pe_calZ c__law_onward hG (hr.mono (by decide)) (by rfl) (pa_cons (pv 2) (pa_cons (pv 6) (pa_cons (pv 3) pa_nil)))) pa_nil))) (pg_tup rfl (pgs_cons (pg_name (i := 7) sc__law_is_between.nd rfl (Or.inr rfl)) (pgs_cons (pg_name (i := 8) sc__law_is_between.nd rfl (Or.inr rfl)) pgs_nil))))
      (pss_cons (ps_set (i := 9) sc__law_is_between.nd rfl (Or.inr rfl) (pe_callB (cr_maxT rfl) (by rfl) b_max (by decide +kernel) (pa_cons (pv 7) pa_nil)))
      (pss_cons (ps_set (i := 10) sc__law_is_between.nd rfl (Or.inr rfl) (pe_op op_add (pv 9) (pe_calZ c__law_pick hG (hr.mono (by decide)) (by rfl) (pa_cons (pv 0) (pa_cons (pe_lst (pa_cons pe_int (pa_cons pe_int (pa_cons pe_int (pa_cons pe_int pa_nil))))) pa_nil)))))
      (pss_cons (ps_set (i := 11) sc__law_is_between.nd rfl (Or.inr rfl) (pe_callTy call_tuple_of (by rfl) b_tuple (by decide +kernel) (pa_cons (pe_lc (own := [("far", 28)]) rfl sc__law_is_between.nd (pi_list (pv 8)) (blkOk_by (own := [("far", 28)]) (N := N__law_is_between) (sc := defScope s__law_is_between) (by decide +kernel)) (fun _ _ _ _ _ => (pg_name (i := 28) sc__law_is_between.nd rfl (Or.inl rfl))) (fun _ _ _ _ _ => pts_nil) (fun _ _ _ _ _ => (pe_op op_sub (pv 10) (pv 28)))) pa_nil)))
      (pss_cons (ps_if (pt_not (pt_val (pe_calZ c__law_same hG (hr.mono (by decide)) (by rfl) (pa_cons (pe_tup (pa_cons (pe_calZ c_least_columns hG (hr.mono (by decide)) (by rfl) (pa_cons (pv 3) (pa_cons (pv 4) pa_nil))) (pa_cons (pe_calZ c_greatest_columns hG (hr.mono (by decide)) (by rfl) (pa_cons (pv 3) (pa_cons (pv 4) (pa_cons (pv 10) pa_nil)))) pa_nil))) (pa_cons (pe_tup (pa_cons (pv 7) (pa_cons (pv 11) pa_nil))) pa_nil))))) (pss_one (ps_ret pe_bl)) pss_nil)
      (pss_cons (ps_if (PW.pt (pw_and (pt_cmpR op_gt (pv 9) pe_int (nomark _)) (pw_and1 (pt_cmpR op_notN (pe_calZ c_greatest_columns hG (hr.mono (by decide)) (by rfl) (pa_cons (pv 3) (pa_cons (pv 4) (pa_cons (pe_op op_sub (pv 9) pe_int) pa_nil)))) pe_non (nomark _))))) (pss_one (ps_ret pe_bl)) pss_nil)
      (pss_cons (ps_setLc (i := 12) (own := [("place", 15)]) rfl sc__law_is_between.nd rfl rfl (sw_true rfl rfl rfl (by decide +kernel)) (pi_range1 rfl b_range (pa_cons (pv 3) pa_nil)) (blkOk_by (own := [("place", 15)]) (N := N__law_is_between) (sc := defScope s__law_is_between) (by decide +kernel)) (fun _ _ _ _ _ => (pg_name (i := 15) sc__law_is_between.nd rfl (Or.inl rfl))) (fun _ _ _ _ _ => (pts_one (pt_cmpR (op_eqD hu64) (pe_op op_add (pe_ix ix_seq (pv 7) (pv 15) (fun _ _ => rfl)) (pe_ix ix_seq (pv 8) (pv 15) (fun _ _ => rfl))) (pv 9) (nomark _)))) (fun _ _ _ _ _ => (pv 15)))
      (pss_cons (ps_if (PW.pt (pw_and (pt_cmpR (op_eqD hu64) (pv 10) (pv 9) (nomark _)) (pw_and1 (pt_cmpR (op_neD hu64) (pe_lc (own := [("place", 15)]) rfl sc__law_is_between.nd (pi_range1 rfl b_range (pa_cons (pv 3) pa_nil)) (blkOk_by (own := [("place", 15)]) (N := N__law_is_between) (sc := defScope s__law_is_between) (by decide +kernel)) (fun _ _ _ _ _ => (pg_name (i := 15) sc__law_is_between.nd rfl (Or.inl rfl))) (fun _ _ _ _ _ => (pts_one (pt_cmpR (op_eqD hu64) (pe_ix ix_seq (pv 7) (pv 15) (fun _ _ => rfl)) (pe_ix ix_seq (pv 11) (pv 15) (fun _ _ => rfl)) (nomark _)))) (fun _ _ _ _ _ => (pv 15))) (pv 12) (nomark _))))) (pss_one (ps_ret pe_bl)) pss_nil)
      (pss_cons (ps_set (i := 13) sc__law_is_between.nd rfl (Or.inl rfl) (pe_lst (pa_cons (pv 7) (pa_cons (pv 11) pa_nil))))
      (pss_cons (ps_for PassesOwn.never rfl (pi_range1 rfl b_range (pa_cons pe_int pa_nil)) (pg_name (i := 14) sc__law_is_between.nd rfl (Or.inl rfl)) (pss_cons (ps_set (i := 15) sc__law_is_between.nd rfl (Or.inl rfl) (pe_calZ c__law_next hG (hr.mono (by decide)) (by rfl) (pa_cons (pv 0) (pa_cons (pv 3) pa_nil))))
      (pss_cons (ps_set (i := 16) sc__law_is_between.nd rfl (Or.inl rfl) (pe_op op_add (pe_ix ix_seq (pv 7) (pv 15) (fun _ _ => rfl)) (pe_calZ c__law_pick hG (hr.mono (by decide)) (by rfl) (pa_cons (pv 0) (pa_cons (pe_lst (pa_cons pe_int (pa_cons pe_int (pa_cons pe_int (pa_cons pe_int (pa_cons pe_int pa_nil)))))) pa_nil)))))
      (pss_cons (ps_set (i := 17) sc__law_is_between.nd rfl (Or.inl rfl) (pe_callTy call_list_of (by rfl) b_list (by decide +kernel) (pa_cons (pv 7) pa_nil)))
      (pss_cons (ps_asg (pv 16) (pg_sub (pv 17) (pv 15) set_list))
      (pss_cons (ps_set (i := 18) sc__law_is_between.nd rfl (Or.inr rfl) (pe_callTy call_tuple_of (by rfl) b_tuple (by decide +kernel) (pa_cons (pe_calZ c__law_raised hG (hr.mono (by decide)) (by rfl) (pa_cons (pv 2) (pa_cons (pv 5) (pa_cons (pv 17) pa_nil)))) pa_nil)))
      (pss_cons (ps_set (i := 19) sc__law_is_between.nd rfl (Or.inl rfl) (pe_calZ c_columns_with hG (hr.mono (by decide)) (by rfl) (pa_cons (pv 3) (pa_cons (pv 4) (pa_cons (pv 15) (pa_cons (pv 16) pa_nil))))))
      (pss_cons (ps_if (PW.pt (pw_or (pt_not (pt_val (pe_calZ c__law_same hG (hr.mono (by decide)) (by rfl) (pa_cons (pv 19) (pa_cons (pv 18) pa_nil))))) (pw_or1 (PW.pt (pw_and (pt_cmpR op_gt (pe_ix ix_seq (pv 7) (pv 15) (fun _ _ => rfl)) pe_int (nomark _)) (pw_and1 (pt_cmpR op_notN (pe_calZ c_columns_with hG (hr.mono (by decide)) (by rfl) (pa_cons (pv 3) (pa_cons (pv 4) (pa_cons (pv 15) (pa_cons (pe_op op_sub (pe_ix ix_seq (pv 7) (pv 15) (fun _ _ => rfl)) pe_int) pa_nil))))) pe_non (nomark _)))))))) (pss_one (ps_ret pe_bl)) pss_nil)
      (pss_cons (ps_set (i := 20) sc__law_is_between.nd rfl (Or.inr rfl) (pe_disp (pps_cons (pv 15) pe_bl pps_nil) (by rfl) rfl (by simp) (by decide)))
      (pss_cons (ps_for PassesOwn.never rfl (pi_list (pv 2)) (pg_name (i := 21) sc__law_is_between.nd rfl (Or.inl rfl)) (pss_one (ps_for PassesOwn.never rfl (pi_list (pv 21)) (pg_name (i := 22) sc__law_is_between.nd rfl (Or.inl rfl)) (pss_one (ps_if (pt_val (pe_callB (cr_any rfl) (by rfl) b_any (by decide +kernel) (pa_cons (pe_lc (own := [("y", 29), ("weight", 30)]) rfl sc__law_is_between.nd (pi_list (pe_ix ix_seq (pv 5) (pv 22) (fun _ _ => rfl))) (blkOk_by (own := [("y", 29), ("weight", 30)]) (N := N__law_is_between) (sc := defScope s__law_is_between) (by decide +kernel)) (fun _ _ _ _ _ => (pg_tup rfl (pgs_cons (pg_name (i := 29) sc__law_is_between.nd rfl (Or.inl rfl)) (pgs_cons (pg_name (i := 30) sc__law_is_between.nd rfl (Or.inl rfl)) pgs_nil)))) (fun _ _ _ _ _ => pts_nil) (fun _ _ _ _ _ => (pe_cmp (pc_din hu (pv 29) (pv 20)) rfl))) pa_nil))) (pss_one (ps_dput hu (pv 20) (pv 22) pe_bl rfl)) pss_nil)))))
      (pss_cons (ps_if (pt_val (pe_callB (cr_any rfl) (by rfl) b_any (by decide +kernel) (pa_cons (pe_lc (own := [("at", 31)]) rfl sc__law_is_between.nd (pi_range1 rfl b_range (pa_cons (pv 3) pa_nil)) (blkOk_by (own := [("at", 31)]) (N := N__law_is_between) (sc := defScope s__law_is_between) (by decide +kernel)) (fun _ _ _ _ _ => (pg_name (i := 31) sc__law_is_between.nd rfl (Or.inl rfl))) (fun _ _ _ _ _ => pts_nil) (fun _ _ _ _ _ => (pe_and (pe_cmpR (op_neD hu64) (pe_ix ix_seq (pv 18) (pv 31) (fun _ _ => rfl)) (pe_ix ix_seq (pv 7) (pv 31) (fun _ _ => rfl)) (nomark _)) (pe_one (pe_cmp (pc_dnotin hu (pv 31) (pv 20)) rfl))))) pa_nil))) (pss_one (ps_ret pe_bl)) pss_nil)
      (pss_one (ps_expr (pe_bm PySem.F.plainAttrs_list PySem.F.slot_list_append PySem.F.type_list_append mt_append (pv 13) (pa_cons (pv 18) pa_nil)))))))))))))))
      (pss_cons (ps_asg (pe_tup (pa_cons (pe_calZ c__law_pick hG (hr.mono (by decide)) (by rfl) (pa_cons (pv 0) (pa_cons (pv 13) pa_nil))) (pa_cons (pe_calZ c__law_pick hG (hr.mono (by decide)) (by rfl) (pa_cons (pv 0) (pa_cons (pv 13) pa_nil))) pa_nil))) (pg_tup rfl (pgs_cons (pg_name (i := 23) sc__law_is_between.nd rfl (Or.inr rfl)) (pgs_cons (pg_name (i := 24) sc__law_is_between.nd rfl (Or.inr rfl)) pgs_nil))))
      (pss_cons (ps_for PassesOwn.never rfl (pi_list (pe_lst (pa_cons (pe_callTy call_tuple_of (by rfl) b_tuple (by decide +kernel) (pa_cons (pe_lc (own := [("at", 31)]) rfl sc__law_is_between.nd (pi_range1 rfl b_range (pa_cons (pv 3) pa_nil)) (blkOk_by (own := [("at", 31)]) (N := N__law_is_between) (sc := defScope s__law_is_between) (by decide +kernel)) (fun _ _ _ _ _ => (pg_name (i := 31) sc__law_is_between.nd rfl (Or.inl rfl))) (fun _ _ _ _ _ => pts_nil) (fun _ _ _ _ _ => (pe_callB (call_min2 rfl) (by rfl) b_min (by decide +kernel) (pa_cons (pe_ix ix_seq (pv 23) (pv 31) (fun _ _ => rfl)) (pa_cons (pe_ix ix_seq (pv 24) (pv 31) (fun _ _ => rfl)) pa_nil))))) pa_nil)) (pa_cons (pe_callTy call_tuple_of (by rfl) b_tuple (by decide +kernel) (pa_cons (pe_lc (own := [("at", 31)]) rfl sc__law_is_between.nd (pi_range1 rfl b_range (pa_cons (pv 3) pa_nil)) (blkOk_by (own := [("at", 31)]) (N := N__law_is_between) (sc := defScope s__law_is_between) (by decide +kernel)) (fun _ _ _ _ _ => (pg_name (i := 31) sc__law_is_between.nd rfl (Or.inl rfl))) (fun _ _ _ _ _ => pts_nil) (fun _ _ _ _ _ => (pe_callB (call_max2 rfl) (by rfl) b_max (by decide +kernel) (pa_cons (pe_ix ix_seq (pv 23) (pv 31) (fun _ _ => rfl)) (pa_cons (pe_ix ix_seq (pv 24) (pv 31) (fun _ _ => rfl)) pa_nil))))) pa_nil)) pa_nil)))) (pg_name (i := 25) sc__law_is_between.nd rfl (Or.inl rfl)) (pss_one (ps_if (PW.pt (pw_or (pt_cmpR op_notBl (pe_calZ c_meets hG (hr.mono (by decide)) (by rfl) (pa_cons (pv 3) (pa_cons (pv 4) (pa_cons (pv 25) pa_nil)))) pe_bl (nomark _)) (pw_or1 (pt_not (pt_val (pe_calZ c__law_same hG (hr.mono (by decide)) (by rfl) (pa_cons (pe_calZ c_broken_demands hG (hr.mono (by decide)) (by rfl) (pa_cons (pv 3) (pa_cons (pv 4) (pa_cons (pv 25) pa_nil)))) (pa_cons (pe_tup pa_nil) pa_nil)))))))) (pss_one (ps_ret pe_bl)) pss_nil)))
      (pss_cons (ps_set (i := 26) sc__law_is_between.nd rfl (Or.inl rfl) (pe_callTy call_tuple_of (by rfl) b_tuple (by decide +kernel) (pa_cons (pe_lc (own := [("at", 31)]) rfl sc__law_is_between.nd (pi_range1 rfl b_range (pa_cons (pv 3) pa_nil)) (blkOk_by (own := [("at", 31)]) (N := N__law_is_between) (sc := defScope s__law_is_between) (by decide +kernel)) (fun _ _ _ _ _ => (pg_name (i := 31) sc__law_is_between.nd rfl (Or.inl rfl))) (fun _ _ _ _ _ => pts_nil) (fun _ _ _ _ _ => (pe_calZ c__law_pick hG (hr.mono (by decide)) (by rfl) (pa_cons (pv 0) (pa_cons (pe_lst (pa_cons (pe_ix ix_seq (pv 7) (pv 31) (fun _ _ => rfl)) (pa_cons (pe_ix ix_seq (pv 11) (pv 31) (fun _ _ => rfl)) (pa_cons (pe_callB (call_max2 rfl) (by rfl) b_max (by decide +kernel) (pa_cons pe_int (pa_cons (pe_op op_sub (pe_ix ix_seq (pv 7) (pv 31) (fun _ _ => rfl)) (pe_callTy call_int1 (by rfl) b_int (by decide +kernel) (pa_cons (pe_cmpR (op_eqD hu64) (pe_calZ c__law_next hG (hr.mono (by decide)) (by rfl) (pa_cons (pv 0) (pa_cons pe_int pa_nil))) pe_int (nomark _)) pa_nil))) pa_nil))) pa_nil)))) pa_nil))))) pa_nil)))
      (pss_cons (ps_set (i := 27) sc__law_is_between.nd rfl (Or.inl rfl) (pe_calZ c__law_broken hG (hr.mono (by decide)) (by rfl) (pa_cons (pv 26) (pa_cons (pv 4) pa_nil))))
      (pss_one (ps_ret (pe_calZ c__law_same hG (hr.mono (by decide)) (by rfl) (pa_cons (pe_tup (pa_cons (pe_calZ c_broken_demands hG (hr.mono (by decide)) (by rfl) (pa_cons (pv 3) (pa_cons (pv 4) (pa_cons (pv 26) pa_nil)))) (pa_cons (pe_calZ c_meets hG (hr.mono (by decide)) (by rfl) (pa_cons (pv 3) (pa_cons (pv 4) (pa_cons (pv 26) pa_nil)))) pa_nil))) (pa_cons (pe_tup (pa_cons (pv 27) (pa_cons (pe_cmpR (op_eqD hu64) (pv 27) (pe_tup pa_nil) (nomark _)) pa_nil))) pa_nil)))))))))))))))))))))
  · rw [len__law_is_between _ _ p]; decide
/-! law: slots 0 script, 1 stream, 2 high, 3 wide, 4 demands, 5 layers -/
abbrev s_law : Stmt := topS 41
abbrev N_law : List Str := ["script", "stream", "high", "wide", "demands", "layers"]
theorem sc_law : FnScope N_law ["script"] (defScope s_law) := ⟨rfl, rfl, rfl, by decide +kernel, rfl, by decide +kernel, by decide +kernel⟩
theorem ok_law {f : Addr} {fd : FuncData} (F : Fun K "law" "law" s_law f fd) (c__law_stream : CalS P w K mg base) (c__law_pick : CalZ P w K mg base 2 "_law_pick" ["stream", "rows"] true P__law_pick) (c__law_next : CalZ P w K mg base 1 "_law_next" ["stream", "many"] true P__law_next) (c__law_cells : CalZ P w K mg base 3 "_law_cells" ["stream", "high", "wide"] true P__law_cells) (c__law_is_between : CalZ P w K mg base 6 "_law_is_between" ["stream", "demands", "layers"] true P__law_is_between) (c__law_layers : CalZ P w K mg base 3 "_law_layers" ["stream", "many"] true P__law_layers) : FnG P w K mg base L2.CX0 7 f fd ["script"] (spLaw K) := by
  refine okG F sc_law (fun vs H Q E h => ?_) fun cdv A fr s H vs Q E hG hr h => ⟨t_law K, PSs.nox ?_, rd_law h⟩
  · obtain ⟨a, ns, rfl, _⟩ := h
    rfl
  · have hu := hu_of hr
    have hu64 := hu64_of hr
    have hu70 := hu70_of hr
    exact (pss_cons (ps_set (i := 1) sc_law.nd rfl (Or.inl rfl) (pe_calS c__law_stream hG (hr.mono (by decide)) (by rfl) (pa_cons (pv 0) pa_nil)))
      (pss_cons (ps_asg (pe_calZ c__law_pick hG (hr.mono (by decide)) (by rfl) (pa_cons (pv 1) (pa_cons (pe_lst (pa_cons (pe_tup (pa_cons pe_int (pa_cons pe_int pa_nil))) (pa_cons (pe_tup (pa_cons pe_int (pa_cons pe_int pa_nil))) (pa_cons (pe_tup (pa_cons pe_int (pa_cons pe_int pa_nil))) (pa_cons (pe_tup (pa_cons pe_int (pa_cons pe_int pa_nil))) (pa_cons (pe_tup (pa_cons pe_int (pa_cons pe_int pa_nil))) pa_nil)))))) pa_nil))) (pg_tup rfl (pgs_cons (pg_name (i := 2) sc_law.nd rfl (Or.inl rfl)) (pgs_cons (pg_name (i := 3) sc_law.nd rfl (Or.inl rfl)) pgs_nil))))
      (pss_cons (ps_if (pt_cmpR (op_eqD hu64) (pe_calZ c__law_next hG (hr.mono (by decide)) (by rfl) (pa_cons (pv 1) (pa_cons pe_int pa_nil))) pe_int (nomark _)) (pss_one (ps_par (i := 2) (j := 3) rfl sc_law.nd rfl rfl (by decide) rfl rfl (pa_cons pe_int (pa_cons (pe_op op_add pe_int (pe_calZ c__law_next hG (hr.mono (by decide)) (by rfl) (pa_cons (pv 1) (pa_cons pe_int pa_nil)))) pa_nil)) (by rfl))) pss_nil)
      (pss_cons (ps_asg (pe_calZ c__law_cells hG (hr.mono (by decide)) (by rfl) (pa_cons (pv 1) (pa_cons (pv 2) (pa_cons (pv 3) pa_nil)))) (pg_tup rfl (pgs_cons (pg_name (i := 4) sc_law.nd rfl (Or.inl rfl)) (pgs_cons (pg_name (i := 5) sc_law.nd rfl (Or.inl rfl)) pgs_nil))))
      (pss_cons (ps_if (pt_not (pt_val (pe_calZ c__law_is_between hG (hr.mono (by decide)) (by rfl) (pa_cons (pv 1) (pa_cons (pv 4) (pa_cons (pv 5) pa_nil)))))) (pss_one (ps_ret pe_bl)) pss_nil)
      (pss_cons (ps_asg (pe_calZ c__law_layers hG (hr.mono (by decide)) (by rfl) (pa_cons (pv 1) (pa_cons (pe_op op_add pe_int (pe_calZ c__law_next hG (hr.mono (by decide)) (by rfl) (pa_cons (pv 1) (pa_cons (pe_calZ c__law_pick hG (hr.mono (by decide)) (by rfl) (pa_cons (pv 1) (pa_cons (pe_lst (pa_cons pe_int (pa_cons pe_int pa_nil))) pa_nil))) pa_nil)))) pa_nil))) (pg_tup rfl (pgs_cons (pg_name (i := 4) sc_law.nd rfl (Or.inl rfl)) (pgs_cons (pg_name (i := 5) sc_law.nd rfl (Or.inl rfl)) pgs_nil))))
      (pss_one (ps_ret (pe_calZ c__law_is_between hG (hr.mono (by decide)) (by rfl) (pa_cons (pv 1) (pa_cons (pv 4) (pa_cons (pv 5) pa_nil))))))))))))
end
theorem defZ_mk {K : PySem.W.Frag} {h : Heap} {mg : Str → Option Value} {x : Str} {ps : List Str} {st : Stmt} {f : Addr} {oc : Value} {od an : Option Addr} {osl : Array (Option Value)} {kV doc pm cdv ct : Value} (X : K.In h) (G : h.Ns mainGlobals mg)
    (a : PySem.W.nsIn K mainGlobals x = some (some (.ref f))) (l : K.lookup f = some ⟨oc, od, .func (PySem.W.fnOf x x (defArgs st) (defBody st) (defScope st) .none kV doc pm an cdv ct), osl⟩) (c : PySem.W.codeIn K cdv x = true) (k : PySem.W.keepIn K (.ref f) = true)
    (b : ∀ (kV doc pm : Value) (an : Option Addr) (cdv ct : Value) (us : List Value), us.length = ps.length → bindArgs (PySem.W.fnOf x x (defArgs st) (defBody st) (defScope st) .none kV doc pm an cdv ct) ⟨us, []⟩ = pure (ps.zip us)) : DefZ K mg x ps st :=
  have F := fun_mk (st := st) l c k
  ⟨f, _, F, PySem.W.mg_of X G a, F.binds b⟩
theorem const_mk {K : PySem.W.Frag} {h : Heap} {mg : Str → Option Value} {x : Str} {v : Int} {tk : Tok} (X : K.In h) (G : h.Ns mainGlobals mg) (a : PySem.W.nsIn K mainGlobals x = some (some (.int v tk))) : ∃ tk, mg x = some (.int v tk) := ⟨_, PySem.W.mg_of X G a⟩
theorem all_law {P : Program} {w : World} {K : PySem.W.Frag} {h : Heap} {mg : Str → Option Value} {fa f : Addr} {oc : Value} {od an : Option Addr} {osl : Array (Option Value)} {kV doc pm cdv ct : Value} (X : K.In h) (G : h.Ns mainGlobals mg) (hfa : mg "law" = some (.ref fa))
    (a : PySem.W.nsIn K mainGlobals "law" = some (some (.ref f))) (l : K.lookup f = some ⟨oc, od, .func (PySem.W.fnOf "law" "law" (defArgs s_law) (defBody s_law) (defScope s_law) .none kV doc pm an cdv ct), osl⟩) (c : PySem.W.codeIn K cdv "law" = true) (k : PySem.W.keepIn K (.ref f) = true)
    (d_raised : DefZ K mg "raised" ["many", "demands", "values"] s_raised) (d_least_among : DefZ K mg "least_among" ["many", "demands"] s_least_among) (d_heaviest_from : DefZ K mg "heaviest_from" ["many", "demands", "place"] s_heaviest_from) (d_is_integer : DefZ K mg "is_integer" ["value"] s_is_integer) (d_is_from_to : DefZ K mg "is_from_to" ["value", "least", "most"] s_is_from_to) (d_is_tuple_of : DefZ K mg "is_tuple_of" ["value", "least", "most"] s_is_tuple_of) (d_is_demand : DefZ K mg "is_demand" ["many", "value"] s_is_demand) (d_check_demands : DefZ K mg "check_demands" ["many", "demands"] s_check_demands) (d_are_columns : DefZ K mg "are_columns" ["many", "value"] s_are_columns) (d_is_met : DefZ K mg "is_met" ["columns", "demand"] s_is_met) (d_check_columns : DefZ K mg "check_columns" ["many", "columns"] s_check_columns) (d_meets : DefZ K mg "meets" ["many", "demands", "columns"] s_meets) (d_broken_demands : DefZ K mg "broken_demands" ["many", "demands", "columns"] s_broken_demands) (d_least_columns : DefZ K mg "least_columns" ["many", "demands"] s_least_columns) (d_greatest_columns : DefZ K mg "greatest_columns" ["many", "demands", "width"] s_greatest_columns) (d_columns_with : DefZ K mg "columns_with" ["many", "demands", "place", "column"] s_columns_with) (d__law_stream : DefZ K mg "_law_stream" ["script"] s__law_stream) (d__law_next : DefZ K mg "_law_next" ["stream", "many"] s__law_next) (d__law_pick : DefZ K mg "_law_pick" ["stream", "rows"] s__law_pick) (d__law_shuffled : DefZ K mg "_law_shuffled" ["stream", "rows"] s__law_shuffled) (d__law_plain : DefZ K mg "_law_plain" ["value"] s__law_plain) (d__law_same : DefZ K mg "_law_same" ["value", "due"] s__law_same) (d__law_broken : DefZ K mg "_law_broken" ["columns", "demands"] s__law_broken) (d__law_layers : DefZ K mg "_law_layers" ["stream", "many"] s__law_layers) (d__law_cells : DefZ K mg "_law_cells" ["stream", "high", "wide"] s__law_cells) (d__law_behind : DefZ K mg "_law_behind" ["demands", "many"] s__law_behind) (d__law_raised : DefZ K mg "_law_raised" ["layers", "to", "begin"] s__law_raised) (d__law_onward : DefZ K mg "_law_onward" ["layers", "away", "many"] s__law_onward) (d__law_is_between : DefZ K mg "_law_is_between" ["stream", "demands", "layers"] s__law_is_between) (b_list : mg "list" = none) (b_range : mg "range" = none) (b_enumerate : mg "enumerate" = none) (b_tuple : mg "tuple" = none) (b_bool : mg "bool" = none) (b_isinstance : mg "isinstance" = none) (b_int : mg "int" = none) (b_len : mg "len" = none) (b_all : mg "all" = none) (b_max : mg "max" = none) (b_zip : mg "zip" = none) (b_abs : mg "abs" = none) (b_str : mg "str" = none) (b_repr : mg "repr" = none) (b_sum : mg "sum" = none) (b_any : mg "any" = none) (b_min : mg "min" = none) (k_MOST_STEP : ∃ tk, mg "MOST_STEP" = some (.int 1000 tk)) (k_MOST_PLACES : ∃ tk, mg "MOST_PLACES" = some (.int 1000 tk)) (k_MOST_DEMANDS : ∃ tk, mg "MOST_DEMANDS" = some (.int 4000 tk)) (k_MOST_WIDTH : ∃ tk, mg "MOST_WIDTH" = some (.int 1000000 tk)) :
    ∃ fd : FuncData, (∀ (s : Shared) (v : Value), BindsTo s fd ⟨[v], []⟩ [("script", v)]) ∧ ∀ base : Heap, K.In base → base.Ns mainGlobals mg → FnG P w K mg base L2.CX0 7 fa fd ["script"] (spLaw K) := by
  have e := hfa.symm.trans (PySem.W.mg_of X G a)
  cases e
  refine ⟨PySem.W.fnOf "law" "law" (defArgs s_law) (defBody s_law) (defScope s_law) .none kV doc pm an cdv ct, fun s v => .of_eq rfl, fun base _ _ => ?_⟩
  have c_raised := ok_raised (P := P) (w := w) (base := base) d_raised b_list b_range b_enumerate W_raised
  have c_least_among := ok_least_among (P := P) (w := w) (base := base) d_least_among c_raised b_tuple W_least_among
  have c_heaviest_from := ok_heaviest_from (P := P) (w := w) (base := base) d_heaviest_from c_raised W_heaviest_from
  have c_is_integer := ok_is_integer (P := P) (w := w) (base := base) d_is_integer b_bool b_isinstance b_int W_is_integer
  have c_is_from_to := ok_is_from_to (P := P) (w := w) (base := base) d_is_from_to c_is_integer W_is_from_to
  have c_is_tuple_of := ok_is_tuple_of (P := P) (w := w) (base := base) d_is_tuple_of b_len b_tuple b_isinstance W_is_tuple_of
  have c_is_demand := ok_is_demand (P := P) (w := w) (base := base) d_is_demand c_is_from_to c_is_tuple_of k_MOST_STEP W_is_demand
  have c_check_demands := ok_check_demands (P := P) (w := w) (base := base) d_check_demands c_is_from_to c_is_demand c_is_tuple_of k_MOST_PLACES b_all k_MOST_DEMANDS W_check_demands
  have c_are_columns := ok_are_columns (P := P) (w := w) (base := base) d_are_columns c_is_integer c_is_tuple_of b_all W_are_columns
  have c_is_met := ok_is_met (P := P) (w := w) (base := base) d_is_met W_is_met
  have c_check_columns := ok_check_columns (P := P) (w := w) (base := base) d_check_columns c_are_columns W_check_columns
  have c_meets := ok_meets (P := P) (w := w) (base := base) d_meets c_check_demands c_check_columns c_is_met b_all W_meets
  have c_broken_demands := ok_broken_demands (P := P) (w := w) (base := base) d_broken_demands c_check_demands c_check_columns c_is_met b_enumerate b_tuple W_broken_demands
  have c_least_columns := ok_least_columns (P := P) (w := w) (base := base) d_least_columns c_check_demands c_least_among W_least_columns
  have c_greatest_columns := ok_greatest_columns (P := P) (w := w) (base := base) d_greatest_columns c_check_demands c_is_from_to c_least_among c_raised k_MOST_WIDTH b_max b_tuple W_greatest_columns
  have c_columns_with := ok_columns_with (P := P) (w := w) (base := base) d_columns_with c_check_demands c_is_from_to c_least_among c_heaviest_from k_MOST_WIDTH b_zip b_max b_tuple W_columns_with
  have c__law_stream := ok__law_stream (P := P) (w := w) (base := base) d__law_stream b_list
  have c__law_next := ok__law_next (P := P) (w := w) (base := base) d__law_next b_len b_abs b_int W__law_next
  have c__law_pick := ok__law_pick (P := P) (w := w) (base := base) d__law_pick c__law_next b_len W__law_pick
  have c__law_shuffled := ok__law_shuffled (P := P) (w := w) (base := base) d__law_shuffled c__law_next b_list b_len b_range W__law_shuffled
  have c__law_plain := ok__law_plain (P := P) (w := w) (base := base) d__law_plain b_range b_len b_tuple b_isinstance b_list b_int b_str W__law_plain
  have c__law_same := ok__law_same (P := P) (w := w) (base := base) d__law_same c__law_plain b_repr W__law_same
  have c__law_broken := ok__law_broken (P := P) (w := w) (base := base) d__law_broken b_len b_range b_tuple W__law_broken
  have c__law_layers := ok__law_layers (P := P) (w := w) (base := base) d__law_layers c__law_next c__law_shuffled c__law_pick b_range b_sum b_list W__law_layers
  have c__law_cells := ok__law_cells (P := P) (w := w) (base := base) d__law_cells c__law_shuffled c__law_pick c__law_next b_range b_len W__law_cells
  have c__law_behind := ok__law_behind (P := P) (w := w) (base := base) d__law_behind b_range W__law_behind
  have c__law_raised := ok__law_raised (P := P) (w := w) (base := base) d__law_raised b_list b_max W__law_raised
  have c__law_onward := ok__law_onward (P := P) (w := w) (base := base) d__law_onward b_max W__law_onward
  have c__law_is_between := ok__law_is_between (P := P) (w := w) (base := base) d__law_is_between c__law_behind c__law_onward c__law_raised c__law_pick c_greatest_columns c_least_columns c__law_same c__law_next c_columns_with c_broken_demands c_meets c__law_broken b_tuple b_len b_sum b_max b_range b_list b_any b_min b_int W__law_is_between
  exact ok_law (fun_mk (st := s_law) l c k) c__law_stream c__law_pick c__law_next c__law_cells c__law_is_between c__law_layers
end Z

open PySem PySem.W PyProof.Rows in
set_option maxRecDepth 100000 in
set_option maxHeartbeats 0 in
theorem PySem.Challenge.cw_laidout_k06_between_least_and_greatest_holds : PySem.Challenge.rw_laidout_k06_between_least_and_greatest.Holds := by
  w_on; o_law; k_head; (case hw => w_witness2)
  k_fill
  refine Z.walkG (l := PySem.Challenge.rw_laidout_k06_between_least_and_greatest) (n := 63) (k := 7) (x := "script") (CX := fun _ => L2.CX0) (sp := fun w => Z.spLaw _) rfl (by decide) rfl ⟨rfl, by decide, by decide⟩ (fun w h Y => PySem.W.kIn_of Y) ?F (fun _ _ a ns _ _ hS => ⟨a, ns, rfl, hS, fun _ => rfl⟩) fun _ _ _ _ _ z => z
  case F =>
    intro w mg fa h KX G hmg
    refine' Z.all_law KX G hmg ?a_law ?l_law ?c_law ?k_law (Z.defZ_mk KX G ?a_raised ?l_raised ?c_raised ?k_raised fun _ _ _ _ _ _ us hl => match us, hl with | [_, _, _], _ => rfl) (Z.defZ_mk KX G ?a_least_among ?l_least_among ?c_least_among ?k_least_among fun _ _ _ _ _ _ us hl => match us, hl with | [_, _], _ => rfl) (Z.defZ_mk KX G ?a_heaviest_from ?l_heaviest_from ?c_heaviest_from ?k_heaviest_from fun _ _ _ _ _ _ us hl => match us, hl with | [_, _, _], _ => rfl) (Z.defZ_mk KX G ?a_is_integer ?l_is_integer ?c_is_integer ?k_is_integer fun _ _ _ _ _ _ us hl => match us, hl with | [_], _ => rfl) (Z.defZ_mk KX G ?a_is_from_to ?l_is_from_to ?c_is_from_to ?k_is_from_to fun _ _ _ _ _ _ us hl => match us, hl with | [_, _, _], _ => rfl) (Z.defZ_mk KX G ?a_is_tuple_of ?l_is_tuple_of ?c_is_tuple_of ?k_is_tuple_of fun _ _ _ _ _ _ us hl => match us, hl with | [_, _, _], _ => rfl) (Z.defZ_mk KX G ?a_is_demand ?l_is_demand ?c_is_demand ?k_is_demand fun _ _ _ _ _ _ us hl => match us, hl with | [_, _], _ => rfl) (Z.defZ_mk KX G ?a_check_demands ?l_check_demands ?c_check_demands ?k_check_demands fun _ _ _ _ _ _ us hl => match us, hl with | [_, _], _ => rfl) (Z.defZ_mk KX G ?a_are_columns ?l_are_columns ?c_are_columns ?k_are_columns fun _ _ _ _ _ _ us hl => match us, hl with | [_, _], _ => rfl) (Z.defZ_mk KX G ?a_is_met ?l_is_met ?c_is_met ?k_is_met fun _ _ _ _ _ _ us hl => match us, hl with | [_, _], _ => rfl) (Z.defZ_mk KX G ?a_check_columns ?l_check_columns ?c_check_columns ?k_check_columns fun _ _ _ _ _ _ us hl => match us, hl with | [_, _], _ => rfl) (Z.defZ_mk KX G ?a_meets ?l_meets ?c_meets ?k_meets fun _ _ _ _ _ _ us hl => match us, hl with | [_, _, _], _ => rfl) (Z.defZ_mk KX G ?a_broken_demands ?l_broken_demands ?c_broken_demands ?k_broken_demands fun _ _ _ _ _ _ us hl => match us, hl with | [_, _, _], _ => rfl) (Z.defZ_mk KX G ?a_least_columns ?l_least_columns ?c_least_columns ?k_least_columns fun _ _ _ _ _ _ us hl => match us, hl with | [_, _], _ => rfl) (Z.defZ_mk KX G ?a_greatest_columns ?l_greatest_columns ?c_greatest_columns ?k_greatest_columns fun _ _ _ _ _ _ us hl => match us, hl with | [_, _, _], _ => rfl) (Z.defZ_mk KX G ?a_columns_with ?l_columns_with ?c_columns_with ?k_columns_with fun _ _ _ _ _ _ us hl => match us, hl with | [_, _, _, _], _ => rfl) (Z.defZ_mk KX G ?a__law_stream ?l__law_stream ?c__law_stream ?k__law_stream fun _ _ _ _ _ _ us hl => match us, hl with | [_], _ => rfl) (Z.defZ_mk KX G ?a__law_next ?l__law_next ?c__law_next ?k__law_next fun _ _ _ _ _ _ us hl => match us, hl with | [_, _], _ => rfl) (Z.defZ_mk KX G ?a__law_pick ?l__law_pick ?c__law_pick ?k__law_pick fun _ _ _ _ _ _ us hl => match us, hl with | [_, _], _ => rfl) (Z.defZ_mk KX G ?a__law_shuffled ?l__law_shuffled ?c__law_shuffled ?k__law_shuffled fun _ _ _ _ _ _ us hl => match us, hl with | [_, _], _ => rfl) (Z.defZ_mk KX G ?a__law_plain ?l__law_plain ?c__law_plain ?k__law_plain fun _ _ _ _ _ _ us hl => match us, hl with | [_], _ => rfl) (Z.defZ_mk KX G ?a__law_same ?l__law_same ?c__law_same ?k__law_same fun _ _ _ _ _ _ us hl => match us, hl with | [_, _], _ => rfl) (Z.defZ_mk KX G ?a__law_broken ?l__law_broken ?c__law_broken ?k__law_broken fun _ _ _ _ _ _ us hl => match us, hl with | [_, _], _ => rfl) (Z.defZ_mk KX G ?a__law_layers ?l__law_layers ?c__law_layers ?k__law_layers fun _ _ _ _ _ _ us hl => match us, hl with | [_, _], _ => rfl) (Z.defZ_mk KX G ?a__law_cells ?l__law_cells ?c__law_cells ?k__law_cells fun _ _ _ _ _ _ us hl => match us, hl with | [_, _, _], _ => rfl) (Z.defZ_mk KX G ?a__law_behind ?l__law_behind ?c__law_behind ?k__law_behind fun _ _ _ _ _ _ us hl => match us, hl with | [_, _], _ => rfl) (Z.defZ_mk KX G ?a__law_raised ?l__law_raised ?c__law_raised ?k__law_raised fun _ _ _ _ _ _ us hl => match us, hl with | [_, _, _], _ => rfl) (Z.defZ_mk KX G ?a__law_onward ?l__law_onward ?c__law_onward ?k__law_onward fun _ _ _ _ _ _ us hl => match us, hl with | [_, _, _], _ => rfl) (Z.defZ_mk KX G ?a__law_is_between ?l__law_is_between ?c__law_is_between ?k__law_is_between fun _ _ _ _ _ _ us hl => match us, hl with | [_, _, _], _ => rfl) (PySem.W.mg_none_of KX G ?zb_list) (PySem.W.mg_none_of KX G ?zb_range) (PySem.W.mg_none_of KX G ?zb_enumerate) (PySem.W.mg_none_of KX G ?zb_tuple) (PySem.W.mg_none_of KX G ?zb_bool) (PySem.W.mg_none_of KX G ?zb_isinstance) (PySem.W.mg_none_of KX G ?zb_int) (PySem.W.mg_none_of KX G ?zb_len) (PySem.W.mg_none_of KX G ?zb_all) (PySem.W.mg_none_of KX G ?zb_max) (PySem.W.mg_none_of KX G ?zb_zip) (PySem.W.mg_none_of KX G ?zb_abs) (PySem.W.mg_none_of KX G ?zb_str) (PySem.W.mg_none_of KX G ?zb_repr) (PySem.W.mg_none_of KX G ?zb_sum) (PySem.W.mg_none_of KX G ?zb_any) (PySem.W.mg_none_of KX G ?zb_min) (Z.const_mk KX G ?zk_MOST_STEP) (Z.const_mk KX G ?zk_MOST_PLACES) (Z.const_mk KX G ?zk_MOST_DEMANDS) (Z.const_mk KX G ?zk_MOST_WIDTH)
    (case a_law => k_is)
    (case l_law => k_is)
    (case c_law => k_is)
    (case k_law => k_is)
    (case a_raised => k_is)
    (case l_raised => k_is)
    (case c_raised => k_is)
    (case k_raised => k_is)
    (case a_least_among => k_is)
    (case l_least_among => k_is)
    (case c_least_among => k_is)
    (case k_least_among => k_is)
    (case a_heaviest_from => k_is)
    (case l_heaviest_from => k_is)
    (case c_heaviest_from => k_is)
    (case k_heaviest_from => k_is)
    (case a_is_integer => k_is)
    (case l_is_integer => k_is)
    (case c_is_integer => k_is)
    (case k_is_integer => k_is)
    (case a_is_from_to => k_is)
    (case l_is_from_to => k_is)
    (case c_is_from_to => k_is)
    (case k_is_from_to => k_is)
    (case a_is_tuple_of => k_is)
    (case l_is_tuple_of => k_is)
    (case c_is_tuple_of => k_is)
    (case k_is_tuple_of => k_is)
    (case a_is_demand => k_is)
    (case l_is_demand => k_is)
    (case c_is_demand => k_is)
    (case k_is_demand => k_is)
    (case a_check_demands => k_is)
    (case l_check_demands => k_is)
    (case c_check_demands => k_is)
    (case k_check_demands => k_is)
    (case a_are_columns => k_is)
    (case l_are_columns => k_is)
    (case c_are_columns => k_is)
    (case k_are_columns => k_is)
    (case a_is_met => k_is)
    (case l_is_met => k_is)
    (case c_is_met => k_is)
    (case k_is_met => k_is)
    (case a_check_columns => k_is)
    (case l_check_columns => k_is)
    (case c_check_columns => k_is)
    (case k_check_columns => k_is)
    (case a_meets => k_is)
    (case l_meets => k_is)
    (case c_meets => k_is)
    (case k_meets => k_is)
    (case a_broken_demands => k_is)
    (case l_broken_demands => k_is)
    (case c_broken_demands => k_is)
    (case k_broken_demands => k_is)
    (case a_least_columns => k_is)
    (case l_least_columns => k_is)
    (case c_least_columns => k_is)
    (case k_least_columns => k_is)
    (case a_greatest_columns => k_is)
    (case l_greatest_columns => k_is)
    (case c_greatest_columns => k_is)
    (case k_greatest_columns => k_is)
    (case a_columns_with => k_is)
    (case l_columns_with => k_is)
    (case c_columns_with => k_is)
    (case k_columns_with => k_is)
    (case a__law_stream => k_is)
    (case l__law_stream => k_is)
    (case c__law_stream => k_is)
    (case k__law_stream => k_is)
    (case a__law_next => k_is)
    (case l__law_next => k_is)
    (case c__law_next => k_is)
    (case k__law_next => k_is)
    (case a__law_pick => k_is)
    (case l__law_pick => k_is)
    (case c__law_pick => k_is)
    (case k__law_pick => k_is)
    (case a__law_shuffled => k_is)
    (case l__law_shuffled => k_is)
    (case c__law_shuffled => k_is)
    (case k__law_shuffled => k_is)
    (case a__law_plain => k_is)
    (case l__law_plain => k_is)
    (case c__law_plain => k_is)
    (case k__law_plain => k_is)
    (case a__law_same => k_is)
    (case l__law_same => k_is)
    (case c__law_same => k_is)
    (case k__law_same => k_is)
    (case a__law_broken => k_is)
    (case l__law_broken => k_is)
    (case c__law_broken => k_is)
    (case k__law_broken => k_is)
    (case a__law_layers => k_is)
    (case l__law_layers => k_is)
    (case c__law_layers => k_is)
    (case k__law_layers => k_is)
    (case a__law_cells => k_is)
    (case l__law_cells => k_is)
    (case c__law_cells => k_is)
    (case k__law_cells => k_is)
    (case a__law_behind => k_is)
    (case l__law_behind => k_is)
    (case c__law_behind => k_is)
    (case k__law_behind => k_is)
    (case a__law_raised => k_is)
    (case l__law_raised => k_is)
    (case c__law_raised => k_is)
    (case k__law_raised => k_is)
    (case a__law_onward => k_is)
    (case l__law_onward => k_is)
    (case c__law_onward => k_is)
    (case k__law_onward => k_is)
    (case a__law_is_between => k_is)
    (case l__law_is_between => k_is)
    (case c__law_is_between => k_is)
    (case k__law_is_between => k_is)
    (case zb_list => k_is)
    (case zb_range => k_is)
    (case zb_enumerate => k_is)
    (case zb_tuple => k_is)
    (case zb_bool => k_is)
    (case zb_isinstance => k_is)
    (case zb_int => k_is)
    (case zb_len => k_is)
    (case zb_all => k_is)
    (case zb_max => k_is)
    (case zb_zip => k_is)
    (case zb_abs => k_is)
    (case zb_str => k_is)
    (case zb_repr => k_is)
    (case zb_sum => k_is)
    (case zb_any => k_is)
    (case zb_min => k_is)
    (case zk_MOST_STEP => k_is)
    (case zk_MOST_PLACES => k_is)
    (case zk_MOST_DEMANDS => k_is)
    (case zk_MOST_WIDTH => k_is)
