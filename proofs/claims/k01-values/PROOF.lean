import PyProof.Rows.All
import HandS.ForMost
import HandS.Zip
import HandS.Style
import HandS.IsInst
import HandS.TupMul
import HandS.TupAny
import HandS.Conv
import HandS.Walk
import HandS.GenList
import HandS.DictComp
import HandS.Wide
import KE.KEqNest
import HandS.Deep
import HandS.Strs
import KE.GoesZip
import KE.GoesMore
import KE.GoesEnum
import HandS.SortInts
import HandS.TupSets
import HandS.Iter
import PySem.Challenge.RW_rerunpages_k01_item_document_and_numberi
set_option Elab.async false
set_option linter.all false
set_option maxRecDepth 100000
set_option maxHeartbeats 4000000
/-! ### part PL1 -/
namespace PL
open PySem PySem.Spec PyProof.Rows L2

/-! ### data -/
inductive D where
  | non | bl (b : Bool) | int (i : Int) | str (x : Str) | tup (xs : List D) | lst (xs : List D) | opn (xs : List D) | scr (ns : List Int)
  | dic (kvs : List (Key × D))

/-- a list that is known to be left alone -/
def FzL (K : PySem.W.Frag) (H : Hp) (a : Addr) (xs : List V) : Prop := (∃ o, H a = some (.frz o (.lst xs))) ∨
    ∃ (o : Obj) (its : Array Value) (n : Nat), K.lookup a = some o ∧ o.cls = .type "list" ∧ o.dict = none ∧ o.data = .seq its n ∧ its.size ≤ sizeLine ∧ Vals xs its.toList
theorem FzL.seq {K : PySem.W.Frag} {H : Hp} {a : Addr} {xs : List V} (h : FzL K H a xs) : SqL K H a xs := by
  rcases h with ⟨o, h⟩ | h
  · exact .inl (.inr ⟨o, h⟩)
  · exact .inr h

mutual
def RepF (K : PySem.W.Frag) (H : Hp) : D → V → Prop
  | .non, v => v = .non
  | .bl b, v => v = .bl b
  | .int i, v => v = .int i
  | .str x, v => v = .str x
  | .tup ds, v => ∃ a vs, v = .ref a ∧ SqT K H a vs ∧ RepL K H ds vs
  | .lst ds, v => ∃ a vs o, v = .ref a ∧ H a = some (.frz o (.lst vs)) ∧ RepL K H ds vs
  | .opn _, _ => False
  | .scr ns, v => ∃ a, v = .ref a ∧ FzL K H a (ns.map V.int)
  | .dic kvs, v => ∃ a ws o, v = .ref a ∧ H a = some (.frz o (.dK ws)) ∧ RepK K H kvs ws
def RepL (K : PySem.W.Frag) (H : Hp) : List D → List V → Prop
  | [], vs => vs = []
  | d :: ds, vs => ∃ v r, vs = v :: r ∧ RepF K H d v ∧ RepL K H ds r
def RepK (K : PySem.W.Frag) (H : Hp) : List (Key × D) → List (Key × V) → Prop
  | [], ws => ws = []
  | (k, d) :: ds, ws => ∃ v r, ws = (k, v) :: r ∧ RepF K H d v ∧ RepK K H ds r
end

/-- what is tracked for good stays -/
structure Ext (H H' : Hp) : Prop where
  tup : ∀ a xs, H a = some (.tup xs) → H' a = some (.tup xs)
  frz : ∀ a o u, H a = some (.frz o u) → H' a = some (.frz o u)
theorem Ext.of {H H' : Hp} (s : Same H H') : Ext H H' := ⟨fun a xs h => s a _ h, fun a o u h => s a _ h⟩
theorem Ext.trans {H H1 H2 : Hp} (a : Ext H H1) (b : Ext H1 H2) : Ext H H2 := ⟨fun c xs h => b.tup c xs (a.tup c xs h), fun c o u h => b.frz c o u (a.frz c o u h)⟩
theorem Ext.refl (H : Hp) : Ext H H := ⟨fun _ _ h => h, fun _ _ _ h => h⟩
theorem Ext.updO {H : Hp} {a : Addr} {o : HO} (h : Mut (H a) ∨ H a = none) : Ext H (upd H a o) := by
  refine ⟨fun b xs e => ?_, fun b ob u e => ?_⟩
  · rw [upd_ne]; exact e
    rintro rfl
    rcases h with h | h
    · rw [e] at h; exact h
    · rw [e] at h; cases h
  · rw [upd_ne]; exact e
    rintro rfl
    rcases h with h | h
    · rw [e] at h; exact h
    · rw [e] at h; cases h
theorem Ext.sqT {K : PySem.W.Frag} {H H' : Hp} {a : Addr} {xs : List V} (e : Ext H H') (h : SqT K H a xs) : SqT K H' a xs := by
  rcases h with (h | ⟨o, h⟩) | h
  · exact .inl (.inl (e.tup _ _ h))
  · exact .inl (.inr ⟨o, e.frz _ _ _ h⟩)
  · exact .inr h
theorem Ext.fzL {K : PySem.W.Frag} {H H' : Hp} {a : Addr} {xs : List V} (e : Ext H H') (h : FzL K H a xs) : FzL K H' a xs := by
  rcases h with ⟨o, h⟩ | h
  · exact .inl ⟨o, e.frz _ _ _ h⟩
  · exact .inr h
mutual
theorem RepF.ext {K : PySem.W.Frag} {H H' : Hp} (e : Ext H H') : ∀ (d : D) (v : V), RepF K H d v → RepF K H' d v
  | .non, v, h => by simpa only [RepF] using h
  | .bl b, v, h => by simpa only [RepF] using h
  | .int i, v, h => by simpa only [RepF] using h
  | .str x, v, h => by simpa only [RepF] using h
  | .tup ds, v, h => by
    simp only [RepF] at h ⊢
    obtain ⟨a, vs, h1, h2, h3⟩ := h
    exact ⟨a, vs, h1, e.sqT h2, RepL.ext e ds vs h3⟩
  | .lst ds, v, h => by
    simp only [RepF] at h ⊢
    obtain ⟨a, vs, o, h1, h2, h3⟩ := h
    exact ⟨a, vs, o, h1, e.frz _ _ _ h2, RepL.ext e ds vs h3⟩
  | .opn ds, v, h => by simp only [RepF] at h
  | .scr ns, v, h => by
    simp only [RepF] at h ⊢
    obtain ⟨a, h1, h2⟩ := h
    exact ⟨a, h1, e.fzL h2⟩
  | .dic kvs, v, h => by
    simp only [RepF] at h ⊢
    obtain ⟨a, vs, o, h1, h2, h3⟩ := h
    exact ⟨a, vs, o, h1, e.frz _ _ _ h2, RepK.ext e kvs vs h3⟩
theorem RepL.ext {K : PySem.W.Frag} {H H' : Hp} (e : Ext H H') : ∀ (ds : List D) (vs : List V), RepL K H ds vs → RepL K H' ds vs
  | [], vs, h => by simpa only [RepL] using h
  | d :: ds, vs, h => by
    simp only [RepL] at h ⊢
    obtain ⟨v, r, h1, h2, h3⟩ := h
    exact ⟨v, r, h1, RepF.ext e d v h2, RepL.ext e ds r h3⟩
theorem RepK.ext {K : PySem.W.Frag} {H H' : Hp} (e : Ext H H') : ∀ (ds : List (Key × D)) (vs : List (Key × V)), RepK K H ds vs → RepK K H' ds vs
  | [], vs, h => by simpa only [RepK] using h
  | (k, d) :: ds, vs, h => by
    simp only [RepK] at h ⊢
    obtain ⟨v, r, h1, h2, h3⟩ := h
    exact ⟨v, r, h1, RepF.ext e d v h2, RepK.ext e ds r h3⟩
end

section
variable {K : PySem.W.Frag} {H H' : Hp}
theorem RepL.length : ∀ {ds : List D} {vs : List V}, RepL K H ds vs → vs.length = ds.length
  | [], vs, h => by simp only [RepL] at h; subst h; rfl
  | d :: ds, vs, h => by
    simp only [RepL] at h
    obtain ⟨v, r, rfl, _, h3⟩ := h
    simp [RepL.length h3]
theorem RepL.get : ∀ {ds : List D} {vs : List V} {i : Nat} {d : D}, RepL K H ds vs → ds[i]? = some d → ∃ v, vs[i]? = some v ∧ RepF K H d v
  | [], _, _, _, _, e => by simp at e
  | x :: ds, vs, 0, d, h, e => by
    simp only [RepL] at h
    obtain ⟨v, r, rfl, h2, _⟩ := h
    simp at e; subst e
    exact ⟨v, rfl, h2⟩
  | x :: ds, vs, i + 1, d, h, e => by
    simp only [RepL] at h
    obtain ⟨v, r, rfl, _, h3⟩ := h
    obtain ⟨u, h4, h5⟩ := RepL.get (i := i) h3 (by simpa using e)
    exact ⟨u, by simpa using h4, h5⟩
theorem RepL.got {ds : List D} {vs : List V} {i : Nat} {v : V} (h : RepL K H ds vs) (e : vs[i]? = some v) : ∃ d, ds[i]? = some d ∧ RepF K H d v := by
  have hl := h.length
  have hi : i < ds.length := by
    rw [← hl]; exact (List.getElem?_eq_some_iff.mp e).1
  obtain ⟨u, h1, h2⟩ := h.get (List.getElem?_eq_getElem hi)
  rw [e] at h1; cases h1
  exact ⟨_, List.getElem?_eq_getElem hi, h2⟩
theorem RepL.append : ∀ {ds es : List D} {vs us : List V}, RepL K H ds vs → RepL K H es us → RepL K H (ds ++ es) (vs ++ us)
  | [], es, vs, us, h, g => by simp only [RepL] at h; subst h; exact g
  | d :: ds, es, vs, us, h, g => by
    simp only [RepL, List.cons_append] at h ⊢
    obtain ⟨v, r, rfl, h2, h3⟩ := h
    exact ⟨v, r ++ us, rfl, h2, RepL.append h3 g⟩
theorem RepL.one {d : D} {v : V} (h : RepF K H d v) : RepL K H [d] [v] := by
  simp only [RepL]; exact ⟨v, [], rfl, h, rfl⟩
theorem RepL.nil : RepL K H [] [] := by simp only [RepL]
theorem RepL.cons {d : D} {v : V} {ds : List D} {vs : List V} (h : RepF K H d v) (g : RepL K H ds vs) : RepL K H (d :: ds) (v :: vs) := by
  simp only [RepL]; exact ⟨v, vs, rfl, h, g⟩
theorem RepL.take : ∀ {ds : List D} {vs : List V} (n : Nat), RepL K H ds vs → RepL K H (ds.take n) (vs.take n)
  | _, _, 0, _ => by simp only [List.take_zero]; exact RepL.nil
  | [], vs, n + 1, h => by simp only [RepL] at h; subst h; exact RepL.nil
  | d :: ds, vs, n + 1, h => by
    simp only [RepL] at h
    obtain ⟨v, r, rfl, h2, h3⟩ := h
    exact RepL.cons h2 (RepL.take n h3)
theorem RepL.drop : ∀ {ds : List D} {vs : List V} (n : Nat), RepL K H ds vs → RepL K H (ds.drop n) (vs.drop n)
  | _, _, 0, h => h
  | [], vs, n + 1, h => by simp only [RepL] at h; subst h; exact RepL.nil
  | d :: ds, vs, n + 1, h => by
    simp only [RepL] at h
    obtain ⟨v, r, rfl, _, h3⟩ := h
    exact RepL.drop n h3
theorem RepL.reverse : ∀ {ds : List D} {vs : List V}, RepL K H ds vs → RepL K H ds.reverse vs.reverse
  | [], vs, h => by simp only [RepL] at h; subst h; exact RepL.nil
  | d :: ds, vs, h => by
    simp only [RepL] at h
    obtain ⟨v, r, rfl, h2, h3⟩ := h
    rw [List.reverse_cons, List.reverse_cons]
    exact (RepL.reverse h3).append (RepL.one h2)
theorem RepL.set : ∀ {ds : List D} {vs : List V} (n : Nat) {d : D} {v : V}, RepL K H ds vs → RepF K H d v → RepL K H (ds.set n d) (vs.set n v)
  | [], vs, n, d, v, h, _ => by simp only [RepL] at h; subst h; exact RepL.nil
  | x :: ds, vs, 0, d, v, h, g => by
    simp only [RepL] at h
    obtain ⟨u, r, rfl, h2, h3⟩ := h
    exact RepL.cons g h3
  | x :: ds, vs, n + 1, d, v, h, g => by
    simp only [RepL] at h
    obtain ⟨u, r, rfl, h2, h3⟩ := h
    exact RepL.cons h2 (RepL.set n h3 g)
theorem RepL.flat : ∀ {ds : List D} {vs : List V} (n : Nat), RepL K H ds vs → RepL K H (List.replicate n ds).flatten (List.replicate n vs).flatten
  | _, _, 0, _ => RepL.nil
  | _, _, n + 1, h => by
    rw [List.replicate_succ, List.replicate_succ, List.flatten_cons, List.flatten_cons]
    exact h.append (RepL.flat n h)
theorem RepL.mem {ds : List D} {vs : List V} {v : V} (h : RepL K H ds vs) (e : v ∈ vs) : ∃ d, d ∈ ds ∧ RepF K H d v := by
  obtain ⟨i, hi⟩ := List.getElem?_of_mem e
  obtain ⟨d, h1, h2⟩ := h.got hi
  exact ⟨d, List.mem_of_getElem? h1, h2⟩
end

/-! ### modes -/
/-- readable now -/
def RepW (K : PySem.W.Frag) (H : Hp) (d : D) (v : V) : Prop := match d with
  | .lst ds => ∃ a vs, v = .ref a ∧ Rd H a (.lst vs) ∧ RepL K H ds vs
  | d => RepF K H d v
/-- frozen, or a list that is new since H0 -/
def RepM (K : PySem.W.Frag) (H0 H : Hp) (d : D) (v : V) : Prop := match d with
  | .opn ds => ∃ a vs, v = .ref a ∧ H0 a = none ∧ H a = some (.lst vs) ∧ RepL K H ds vs
  | d => RepF K H d v
/-- a slot: frozen, or a list of its own -/
def RepS (K : PySem.W.Frag) (H : Hp) (d : D) (v : V) : Prop := match d with
  | .opn ds => ∃ a vs, v = .ref a ∧ H a = some (.lst vs) ∧ RepL K H ds vs
  | d => RepF K H d v
/-- the list frozen -/
def frzD : D → D
  | .opn ds => .lst ds
  | d => d
theorem RepW.of {K : PySem.W.Frag} {H : Hp} {d : D} {v : V} (h : RepF K H d v) : RepW K H d v := by
  cases d with
  | lst ds =>
    simp only [RepF] at h
    obtain ⟨a, vs, o, h1, h2, h3⟩ := h
    exact ⟨a, vs, h1, .inr ⟨o, h2⟩, h3⟩
  | _ => exact h
theorem RepM.of {K : PySem.W.Frag} {H0 H : Hp} {d : D} {v : V} (h : RepF K H d v) : RepM K H0 H d v := by
  cases d with
  | opn ds => simp only [RepF] at h
  | _ => exact h
theorem RepS.of {K : PySem.W.Frag} {H : Hp} {d : D} {v : V} (h : RepF K H d v) : RepS K H d v := by
  cases d with
  | opn ds => simp only [RepF] at h
  | _ => exact h
theorem RepM.s {K : PySem.W.Frag} {H0 H : Hp} {d : D} {v : V} (h : RepM K H0 H d v) : RepS K H d v := by
  cases d with
  | opn ds =>
    obtain ⟨a, vs, h1, _, h2, h3⟩ := h
    exact ⟨a, vs, h1, h2, h3⟩
  | _ => exact h
theorem RepS.w {K : PySem.W.Frag} {H : Hp} {d : D} {v : V} (h : RepS K H d v) : RepW K H (frzD d) v := by
  cases d with
  | opn ds =>
    obtain ⟨a, vs, h1, h2, h3⟩ := h
    exact ⟨a, vs, h1, .inl h2, h3⟩
  | lst ds => exact RepW.of h
  | _ => exact h
theorem RepW.same {K : PySem.W.Frag} {H H' : Hp} (e : Same H H') {d : D} {v : V} (h : RepW K H d v) : RepW K H' d v := by
  cases d with
  | lst ds =>
    obtain ⟨a, vs, h1, h2, h3⟩ := h
    refine ⟨a, vs, h1, ?_, h3.ext (Ext.of e)⟩
    rcases h2 with h2 | ⟨o, h2⟩
    · exact .inl (e _ _ h2)
    · exact .inr ⟨o, e _ _ h2⟩
  | _ => exact RepF.ext (Ext.of e) _ _ h
theorem RepS.same {K : PySem.W.Frag} {H H' : Hp} (e : Same H H') {d : D} {v : V} (h : RepS K H d v) : RepS K H' d v := by
  cases d with
  | opn ds =>
    obtain ⟨a, vs, h1, h2, h3⟩ := h
    exact ⟨a, vs, h1, e _ _ h2, h3.ext (Ext.of e)⟩
  | _ => exact RepF.ext (Ext.of e) _ _ h
theorem RepM.same {K : PySem.W.Frag} {H0 H H' : Hp} (e : Same H H') {d : D} {v : V} (h : RepM K H0 H d v) : RepM K H0 H' d v := by
  cases d with
  | opn ds =>
    obtain ⟨a, vs, h1, h0, h2, h3⟩ := h
    exact ⟨a, vs, h1, h0, e _ _ h2, h3.ext (Ext.of e)⟩
  | _ => exact RepF.ext (Ext.of e) _ _ h
theorem RepM.back {K : PySem.W.Frag} {H0 H1 H : Hp} (e : Same H0 H1) {d : D} {v : V} (h : RepM K H1 H d v) : RepM K H0 H d v := by
  cases d with
  | opn ds =>
    obtain ⟨a, vs, h1, h0, h2, h3⟩ := h
    exact ⟨a, vs, h1, e.free h0, h2, h3⟩
  | _ => exact h

/-! ### slots -/
abbrev Rho := List (Option D)
structure ER (K : PySem.W.Frag) (H : Hp) (σ : L2.St) (ρ : Rho) : Prop where
  len : ρ.length = σ.length
  slot : ∀ (i : Nat) (d : D), ρ[i]? = some (some d) → ∃ v, σ[i]? = some (some v) ∧ RepS K H d v
theorem ER.same {K : PySem.W.Frag} {H H' : Hp} {σ : L2.St} {ρ : Rho} (h : ER K H σ ρ) (e : Same H H') : ER K H' σ ρ :=
  ⟨h.len, fun i d q => let ⟨v, a, b⟩ := h.slot i d q; ⟨v, a, b.same e⟩⟩
/-- the slots of a def's body, H0 its entry's heap -/
structure ERS (K : PySem.W.Frag) (H0 H : Hp) (σ : L2.St) (ρ : Rho) : Prop extends ER K H σ ρ where
  sm : Same H0 H
  fresh : ∀ (i : Nat) (ds : List D) (a : Addr), ρ[i]? = some (some (.opn ds)) → σ[i]? = some (some (.ref a)) → H0 a = none
  apart : ∀ (i j : Nat) (ds es : List D) (a : Addr), ρ[i]? = some (some (.opn ds)) → ρ[j]? = some (some (.opn es)) → σ[i]? = some (some (.ref a)) → σ[j]? = some (some (.ref a)) → i = j
theorem ERS.same {K : PySem.W.Frag} {H0 H H' : Hp} {σ : L2.St} {ρ : Rho} (h : ERS K H0 H σ ρ) (e : Same H H') : ERS K H0 H' σ ρ :=
  ⟨h.toER.same e, h.sm.trans e, h.fresh, h.apart⟩

theorem ER.set {K : PySem.W.Frag} {H : Hp} {σ : L2.St} {ρ : Rho} (h : ER K H σ ρ) {i : Nat} {d : D} {v : V} (r : RepS K H d v) : ER K H (σ.set i (some v)) (ρ.set i (some d)) := by
  refine ⟨by simp [h.len], fun j e q => ?_⟩
  by_cases hj : i = j
  · subst hj
    have hi : i < ρ.length := by
      have := (List.getElem?_eq_some_iff.mp q).1
      simpa using this
    rw [List.getElem?_set_self hi] at q
    cases q
    exact ⟨v, List.getElem?_set_self (by rw [← h.len]; exact hi), r⟩
  · rw [List.getElem?_set_ne hj] at q ⊢
    exact h.slot j e q
/-- a slot takes a value that was made in this body -/
theorem ERS.set {K : PySem.W.Frag} {H0 H1 H : Hp} {σ : L2.St} {ρ : Rho} (h : ERS K H0 H1 σ ρ) (e : Same H1 H) {i : Nat} {d : D} {v : V} (r : RepM K H1 H d v) : ERS K H0 H (σ.set i (some v)) (ρ.set i (some d)) := by
  have h' := h.same e
  refine ⟨h'.toER.set r.s, h'.sm, fun j ds a q1 q2 => ?_, fun j k ds es a q1 q2 q3 q4 => ?_⟩
  · by_cases hj : i = j
    · subst hj
      have hi : i < ρ.length := by simpa using (List.getElem?_eq_some_iff.mp q1).1
      rw [List.getElem?_set_self hi] at q1
      rw [List.getElem?_set_self (by rw [← h.len]; exact hi)] at q2
      cases q1
      cases q2
      obtain ⟨b, vs, e1, h0, _⟩ := r
      cases e1
      exact h.sm.free h0
    · rw [List.getElem?_set_ne hj] at q1 q2
      exact h.fresh j ds a q1 q2
  · have old : ∀ {j k : Nat} {ds es : List D} {a : Addr}, i = j → i ≠ k → (ρ.set i (some d))[j]? = some (some (D.opn ds)) → (ρ.set i (some d))[k]? = some (some (D.opn es)) → (σ.set i (some v))[j]? = some (some (V.ref a)) → (σ.set i (some v))[k]? = some (some (V.ref a)) → False := by
      intro j k ds es a hj hk q1 q2 q3 q4
      subst hj
      have hi : i < ρ.length := by simpa using (List.getElem?_eq_some_iff.mp q1).1
      rw [List.getElem?_set_self hi] at q1
      rw [List.getElem?_set_self (by rw [← h.len]; exact hi)] at q3
      cases q1
      cases q3
      rw [List.getElem?_set_ne hk] at q2 q4
      obtain ⟨b, vs, e1, h0, _⟩ := r
      cases e1
      obtain ⟨u, hu, b, us, e2, hb, _⟩ := h.slot k _ q2
      rw [q4] at hu; cases hu; cases e2
      rw [h0] at hb; cases hb
    by_cases hj : i = j
    · by_cases hk : i = k
      · rw [← hj, ← hk]
      · exact (old hj hk q1 q2 q3 q4).elim
    · by_cases hk : i = k
      · exact (old hk hj q2 q1 q4 q3).elim
      · rw [List.getElem?_set_ne hj] at q1 q3
        rw [List.getElem?_set_ne hk] at q2 q4
        exact h.apart j k ds es a q1 q2 q3 q4
/-- the list in slot i is changed in place -/
theorem ERS.put {K : PySem.W.Frag} {H0 H : Hp} {σ : L2.St} {ρ : Rho} (h : ERS K H0 H σ ρ) {i : Nat} {ds es : List D} {a : Addr} {us : List V} (hi : ρ[i]? = some (some (.opn ds))) (ha : σ[i]? = some (some (.ref a))) (r : RepL K H es us) :
    ERS K H0 (upd H a (.lst us)) σ (ρ.set i (some (.opn es))) ∧ Ext H (upd H a (.lst us)) := by
  obtain ⟨v, hv, b, vs, e1, hb, hr⟩ := h.slot i _ hi
  rw [ha] at hv; cases hv; cases e1
  have ext : Ext H (upd H a (.lst us)) := Ext.updO (.inl (by rw [hb]; trivial))
  have hil : i < ρ.length := (List.getElem?_eq_some_iff.mp hi).1
  refine ⟨⟨⟨by simp [h.len], fun j d q => ?_⟩, fun b o e => ?_, fun j xs b q1 q2 => ?_, fun j k xs ys b q1 q2 q3 q4 => ?_⟩, ext⟩
  · by_cases hj : i = j
    · subst hj
      rw [List.getElem?_set_self hil] at q
      cases q
      exact ⟨.ref a, ha, a, us, rfl, upd_same, r.ext ext⟩
    · rw [List.getElem?_set_ne hj] at q
      obtain ⟨v, h1, h2⟩ := h.slot j d q
      refine ⟨v, h1, ?_⟩
      cases d with
      | opn zs =>
        obtain ⟨b, ws, e1, h3, h4⟩ := h2
        refine ⟨b, ws, e1, ?_, h4.ext ext⟩
        rw [upd_ne]; exact h3
        rintro rfl
        subst e1
        exact hj (h.apart i j _ _ b hi q ha h1)
      | _ => exact RepF.ext ext _ _ h2
  · have n := h.fresh i ds a hi ha
    have : b ≠ a := fun z => by rw [z, n] at e; cases e
    rw [upd_ne this]; exact h.sm b o e
  · by_cases hj : i = j
    · subst hj
      rw [ha] at q2; cases q2
      exact h.fresh i ds a hi ha
    · rw [List.getElem?_set_ne hj] at q1
      exact h.fresh j xs b q1 q2
  · have back : ∀ {j : Nat} {xs : List D}, (ρ.set i (some (D.opn es)))[j]? = some (some (D.opn xs)) → ∃ zs, ρ[j]? = some (some (D.opn zs)) := by
      intro j xs q
      by_cases hj : i = j
      · subst hj; exact ⟨ds, hi⟩
      · rw [List.getElem?_set_ne hj] at q; exact ⟨xs, q⟩
    obtain ⟨_, z1⟩ := back q1
    obtain ⟨_, z2⟩ := back q2
    exact h.apart j k _ _ b z1 z2 q3 q4
/-- the list in slot i is frozen -/
theorem ERS.ice {K : PySem.W.Frag} {H0 H : Hp} {σ : L2.St} {ρ : Rho} (h : ERS K H0 H σ ρ) {i : Nat} {ds : List D} {a : Addr} {us : List V} {o : Obj} (hi : ρ[i]? = some (some (.opn ds))) (ha : σ[i]? = some (some (.ref a))) (hH : H a = some (.lst us)) :
    ERS K H0 (upd H a (.frz o (.lst us))) σ (ρ.set i (some (.lst ds))) := by
  obtain ⟨v, hv, b, vs, e1, hb, hr⟩ := h.slot i _ hi
  rw [ha] at hv; cases hv; cases e1
  rw [hH] at hb; cases hb
  have ext : Ext H (upd H a (.frz o (.lst us))) := Ext.updO (.inl (by rw [hH]; trivial))
  have hil : i < ρ.length := (List.getElem?_eq_some_iff.mp hi).1
  have back : ∀ {j : Nat} {xs : List D}, (ρ.set i (some (D.lst ds)))[j]? = some (some (D.opn xs)) → i ≠ j ∧ ρ[j]? = some (some (D.opn xs)) := by
    intro j xs q
    by_cases hj : i = j
    · subst hj; rw [List.getElem?_set_self hil] at q; cases q
    · rw [List.getElem?_set_ne hj] at q; exact ⟨hj, q⟩
  refine ⟨⟨by simp [h.len], fun j d q => ?_⟩, fun b o e => ?_, fun j xs b q1 q2 => ?_, fun j k xs ys b q1 q2 q3 q4 => ?_⟩
  · by_cases hj : i = j
    · subst hj
      rw [List.getElem?_set_self hil] at q
      cases q
      refine ⟨.ref a, ha, ?_⟩
      show RepF _ _ (.lst ds) _
      simp only [RepF]
      exact ⟨a, us, o, rfl, upd_same, hr.ext ext⟩
    · rw [List.getElem?_set_ne hj] at q
      obtain ⟨v, h1, h2⟩ := h.slot j d q
      refine ⟨v, h1, ?_⟩
      cases d with
      | opn zs =>
        obtain ⟨b, ws, e1, h3, h4⟩ := h2
        refine ⟨b, ws, e1, ?_, h4.ext ext⟩
        rw [upd_ne]; exact h3
        rintro rfl
        subst e1
        exact hj (h.apart i j _ _ b hi q ha h1)
      | _ => exact RepF.ext ext _ _ h2
  · have n := h.fresh i ds a hi ha
    have : b ≠ a := fun z => by rw [z, n] at e; cases e
    rw [upd_ne this]; exact h.sm b _ e
  · exact h.fresh j xs b (back q1).2 q2
  · exact h.apart j k _ _ b (back q1).2 (back q2).2 q3 q4

theorem same_new {H : Hp} {a : Addr} {o : HO} (h : H a = none) : Same H (upd H a o) := fun b x e => by
  rw [upd_ne (ne_of_none e h)]; exact e
theorem same_new2 {H0 H : Hp} {a : Addr} {o : HO} (e : Same H0 H) (h : H0 a = none) : Same H0 (upd H a o) := fun b x q => by
  rw [upd_ne (ne_of_none q h)]; exact e b x q
end PL
/-! ### part PL2 -/
namespace PL
open PySem PySem.Spec PyProof.Rows L2

/-! ### canonical readings -/
def tF (K : PySem.W.Frag) (f : Rho → Option D) : TE := fun σ H Q => ∃ ρ d, ER K H σ ρ ∧ f ρ = some d ∧ ∀ v H', Same H H' → RepF K H' d v → Q v H'
def tM (K : PySem.W.Frag) (f : Rho → Option D) : TE := fun σ H Q => ∃ ρ d, ER K H σ ρ ∧ f ρ = some d ∧ ∀ v H', Same H H' → RepM K H H' d v → Q v H'
def tW (K : PySem.W.Frag) (f : Rho → Option D) : TE := fun σ H Q => ∃ ρ d, ER K H σ ρ ∧ f ρ = some d ∧ ∀ v H', Same H H' → RepW K H' d v → Q v H'
def tA (K : PySem.W.Frag) (f : Rho → Option (List D)) : TA := fun σ H Q => ∃ ρ ds, ER K H σ ρ ∧ f ρ = some ds ∧ ∀ vs H', Same H H' → RepL K H' ds vs → Q vs H'
def tB (K : PySem.W.Frag) (f : Rho → Option Bool) : TT := fun σ H Q => ∃ ρ b, ER K H σ ρ ∧ f ρ = some b ∧ ∀ H', Same H H' → Q b H'
/-- an expression's value is frozen; frozen or a new list; to be read at once -/
def FE (X : Cx) (e : Expr) (f : Rho → Option D) : Prop := PE X e (tF X.K f)
def ME (X : Cx) (e : Expr) (f : Rho → Option D) : Prop := PE X e (tM X.K f)
def WE (X : Cx) (e : Expr) (f : Rho → Option D) : Prop := PE X e (tW X.K f)
def AE (X : Cx) (es : List Expr) (f : Rho → Option (List D)) : Prop := PA X es (tA X.K f)
def BE (X : Cx) (e : Expr) (f : Rho → Option Bool) : Prop := PT X e (tB X.K f)

theorem PE.weak {X : Cx} {e : Expr} {t t' : TE} (h : PE X e t) (k : ∀ σ H Q, t' σ H Q → t σ H Q) : PE X e t' := ⟨fun pins s σ H Q I q => h.run pins s σ H Q I (k σ H Q q)⟩
theorem PT.weak {X : Cx} {e : Expr} {t t' : TT} (h : PT X e t) (k : ∀ σ H Q, t' σ H Q → t σ H Q) : PT X e t' := ⟨fun pins s σ H Q I q => h.run pins s σ H Q I (k σ H Q q)⟩
theorem PA.weak {X : Cx} {es : List Expr} {t t' : TA} (h : PA X es t) (k : ∀ σ H Q, t' σ H Q → t σ H Q) : PA X es t' := ⟨fun pos pins s σ H Q I q => h.run pos pins s σ H Q I (k σ H Q q)⟩
theorem PS.weak {X : Cx} {st : Stmt} {t t' : TS} (h : PS X st t) (k : ∀ D σ H, t' D σ H → t D σ H) : PS X st t' := ⟨fun pins s σ H D I q => h.run pins s σ H D I (k D σ H q)⟩

def fz (f : Rho → Option D) : Rho → Option D := fun ρ => (f ρ).map frzD
section
variable {X : Cx} {e a b : Expr} {es : List Expr} {f fa fb : Rho → Option D} {pos : Pos}
theorem me_of_fe (h : FE X e f) : ME X e f := PE.weak h fun σ H Q ⟨ρ, d, er, hf, q⟩ => ⟨ρ, d, er, hf, fun v H' s r => q v H' s (.of r)⟩
theorem we_of_fe (h : FE X e f) : WE X e f := PE.weak h fun σ H Q ⟨ρ, d, er, hf, q⟩ => ⟨ρ, d, er, hf, fun v H' s r => q v H' s (.of r)⟩
theorem we_of_me (h : ME X e f) : WE X e (fz f) := PE.weak h fun σ H Q ⟨ρ, d, er, hf, q⟩ => by
  obtain ⟨d0, h0, rfl⟩ := Option.map_eq_some_iff.mp hf
  exact ⟨ρ, d0, er, h0, fun v H' s r => q v H' s r.s.w⟩
theorem fe_of_me (h : ME X e f) : FE X e (fz f) := by
  refine ⟨fun pins s σ H Q I ⟨ρ, d', er, hf, q⟩ => ?_⟩
  obtain ⟨d, h0, rfl⟩ := Option.map_eq_some_iff.mp hf
  refine thn (h.run pins s σ H (fun v H1 => Same H H1 ∧ RepM X.K H H1 d v) I ⟨ρ, d, er, h0, fun v H' s r => ⟨s, r⟩⟩) fun u s1 ⟨v, H1, I1, rv, sm, r⟩ => ?_
  cases d with
  | opn ds =>
    obtain ⟨a, vs, rfl, n0, h1, h2⟩ := r
    obtain ⟨od, I2⟩ := I1.lock h1 trivial
    have ext : Ext H1 (upd H1 a (.frz od (.lst vs))) := Ext.updO (.inl (by rw [h1]; trivial))
    refine ⟨.ref a, _, I2, rv, q _ _ (same_new2 sm n0) ?_⟩
    show RepF _ _ (.lst ds) _
    simp only [RepF]
    exact ⟨a, vs, od, rfl, upd_same, h2.ext ext⟩
  | _ => exact ⟨v, H1, I1, rv, q v H1 sm r⟩
/-- an equal mirror -/
theorem FE.eq {g : Rho → Option D} (h : FE X e f) (k : g = f) : FE X e g := k ▸ h

/-! ### names, constants -/
def noOpn : D → Option D
  | .opn _ => none
  | d => some d
def fVar (i : Nat) : Rho → Option D := fun ρ => (ρ[i]?.join).bind noOpn
def fVarW (i : Nat) : Rho → Option D := fun ρ => (ρ[i]?.join).map frzD
def fC (d : D) : Rho → Option D := fun _ => some d
theorem noOpn_some {d d' : D} (h : noOpn d = some d') : d = d' ∧ ∀ ds, d ≠ .opn ds := by
  cases d <;> simp [noOpn] at h <;> exact ⟨h, fun _ z => nomatch z⟩
theorem repF_of_s {K : PySem.W.Frag} {H : Hp} {d : D} {v : V} (h : RepS K H d v) (n : ∀ ds, d ≠ .opn ds) : RepF K H d v := by
  cases d with
  | opn ds => exact absurd rfl (n ds)
  | _ => exact h
theorem fe_var {x : Str} (i : Nat) (hN : X.N[i]? = some x) (hv : Vis X.env.scope x) (hd : (x == ("__debug__" : Str)) = false := by decide) (hcd : (x == ("__classdict__" : Str)) = false := by decide) : FE X (.Name x pos) (fVar i) :=
  PE.weak (pe_var hN hv hd hcd) fun σ H Q ⟨ρ, d, er, hf, q⟩ => by
    unfold fVar at hf
    obtain ⟨d0, h0, h1⟩ := Option.bind_eq_some_iff.mp hf
    obtain ⟨rfl, n⟩ := noOpn_some h1
    obtain ⟨v, hv, r⟩ := er.slot i d0 (Option.join_eq_some_iff.mp h0)
    exact ⟨v, hv, q v H (Same.refl H) (repF_of_s r n)⟩
theorem we_var {x : Str} (i : Nat) (hN : X.N[i]? = some x) (hv : Vis X.env.scope x) (hd : (x == ("__debug__" : Str)) = false := by decide) (hcd : (x == ("__classdict__" : Str)) = false := by decide) : WE X (.Name x pos) (fVarW i) :=
  PE.weak (pe_var hN hv hd hcd) fun σ H Q ⟨ρ, d, er, hf, q⟩ => by
    unfold fVarW at hf
    obtain ⟨d0, h0, rfl⟩ := Option.map_eq_some_iff.mp hf
    obtain ⟨v, hv, r⟩ := er.slot i d0 (Option.join_eq_some_iff.mp h0)
    exact ⟨v, hv, q v H (Same.refl H) r.w⟩
theorem fe_int {i : Int} {j} : FE X (.Constant (.int i) j pos) (fC (.int i)) := PE.weak pe_int fun σ H Q ⟨ρ, d, er, hf, q⟩ => by cases hf; exact q _ H (Same.refl H) (by simp only [RepF])
theorem fe_bl {i : Bool} {j} : FE X (.Constant (.bool i) j pos) (fC (.bl i)) := PE.weak pe_bl fun σ H Q ⟨ρ, d, er, hf, q⟩ => by cases hf; exact q _ H (Same.refl H) (by simp only [RepF])
theorem fe_non {j} : FE X (.Constant .none j pos) (fC .non) := PE.weak pe_non fun σ H Q ⟨ρ, d, er, hf, q⟩ => by cases hf; exact q _ H (Same.refl H) (by simp only [RepF])
theorem fe_str {x : Str} {j} : FE X (.Constant (.str x) j pos) (fC (.str x)) := PE.weak pe_str fun σ H Q ⟨ρ, d, er, hf, q⟩ => by cases hf; exact q _ H (Same.refl H) (by simp only [RepF])
theorem fe_globS {x : Str} {z : Str} {t : Tok} (hg : Gl X x) (hm : X.mg x = some (.str z t)) (hd : (x == ("__debug__" : Str)) = false := by decide) : FE X (.Name x pos) (fC (.str z)) :=
  PE.weak (pe_glob (v := .str z) hg hm ⟨t, rfl⟩ hd) fun σ H Q ⟨ρ, d, er, hf, q⟩ => by cases hf; exact q _ H (Same.refl H) (by simp only [RepF])

/-! ### argument lists, displays -/
def fsNil : Rho → Option (List D) := fun _ => some []
def fsCons (f : Rho → Option D) (g : Rho → Option (List D)) : Rho → Option (List D) := fun ρ => (f ρ).bind fun d => (g ρ).map (d :: ·)
theorem ae_nil : AE X [] fsNil := PA.weak pa_nil fun σ H Q ⟨ρ, ds, er, hf, q⟩ => by cases hf; exact q _ H (Same.refl H) (by simp only [RepL])
theorem ae_cons {g : Rho → Option (List D)} (ha : FE X e f) (hr : AE X es g) (hs : starEach (e :: es) X.env = (false, eval e X.env) :: starEach es X.env := by rfl) : AE X (e :: es) (fsCons f g) :=
  PA.weak (pa_cons ha hr hs) fun σ H Q ⟨ρ, ds, er, hf, q⟩ => by
    obtain ⟨d, h1, h2⟩ := Option.bind_eq_some_iff.mp hf
    obtain ⟨r, h3, rfl⟩ := Option.map_eq_some_iff.mp h2
    refine ⟨ρ, d, er, h1, fun v H1 s1 r1 => ⟨ρ, r, er.same s1, h3, fun vs H2 s2 r2 => q _ H2 (s1.trans s2) (RepL.cons (r1.ext (Ext.of s2)) r2)⟩⟩
def fTup (g : Rho → Option (List D)) : Rho → Option D := fun ρ => (g ρ).bind fun ds => if ds.length ≤ 1000 then some (.tup ds) else none
def fLst (g : Rho → Option (List D)) : Rho → Option D := fun ρ => (g ρ).bind fun ds => if ds.length ≤ 1000 then some (.opn ds) else none
theorem le_line {n : Nat} (h : n ≤ 1000) : n ≤ sizeLine := by rw [sizeLine_eq]; omega
theorem fe_tup {g : Rho → Option (List D)} {x1} (h : AE X es g) : FE X (.Tuple es x1 pos) (fTup g) :=
  PE.weak (pe_tup h) fun σ H Q ⟨ρ, d, er, hf, q⟩ => by
    obtain ⟨ds, h1, h2⟩ := Option.bind_eq_some_iff.mp hf
    split at h2
    · rename_i hl
      cases h2
      refine ⟨ρ, ds, er, h1, fun vs H1 s1 r1 => ⟨le_line (by rw [r1.length]; exact hl), fun p hp => q _ _ (s1.trans (same_new hp)) ?_⟩⟩
      simp only [RepF]
      exact ⟨p, vs, rfl, .of upd_same, r1.ext (Ext.of (same_new hp))⟩
    · cases h2
theorem me_lst {g : Rho → Option (List D)} (h : AE X es g) : ME X (.List es pos) (fLst g) :=
  PE.weak (pe_lst h) fun σ H Q ⟨ρ, d, er, hf, q⟩ => by
    obtain ⟨ds, h1, h2⟩ := Option.bind_eq_some_iff.mp hf
    split at h2
    · rename_i hl
      cases h2
      refine ⟨ρ, ds, er, h1, fun vs H1 s1 r1 => ⟨le_line (by rw [r1.length]; exact hl), fun p hp => q _ _ (s1.trans (same_new hp)) ?_⟩⟩
      exact ⟨p, vs, rfl, s1.free hp, upd_same, r1.ext (Ext.of (same_new hp))⟩
    · cases h2

/-! ### two operands -/
def b2 (g : D → D → Option D) (fa fb : Rho → Option D) : Rho → Option D := fun ρ => (fa ρ).bind fun x => (fb ρ).bind fun y => g x y
theorem b2_some {g : D → D → Option D} {fa fb : Rho → Option D} {ρ : Rho} {d : D} (h : b2 g fa fb ρ = some d) : ∃ x y, fa ρ = some x ∧ fb ρ = some y ∧ g x y = some d := by
  obtain ⟨x, h1, h2⟩ := Option.bind_eq_some_iff.mp h
  obtain ⟨y, h3, h4⟩ := Option.bind_eq_some_iff.mp h2
  exact ⟨x, y, h1, h3, h4⟩
/-- a rule by values answers g -/
def RulF (K : PySem.W.Frag) (g : D → D → Option D) (r : R2) : Prop := ∀ (dx dy d : D) (x y : V) (H : Hp) (Q : VK), RepW K H dx x → RepW K H dy y → g dx dy = some d → (∀ v H', Same H H' → RepF K H' d v → Q v H') → r x y H Q
def RulM (K : PySem.W.Frag) (g : D → D → Option D) (r : R2) : Prop := ∀ (dx dy d : D) (x y : V) (H : Hp) (Q : VK), RepW K H dx x → RepW K H dy y → g dx dy = some d → (∀ v H', Same H H' → RepM K H H' d v → Q v H') → r x y H Q
theorem top_f {g : D → D → Option D} {r : R2} (hr : RulF X.K g r) {σ : L2.St} {H : Hp} {Q : VK} (h : tF X.K (b2 g fa fb) σ H Q) : tOp r (tW X.K fa) (tW X.K fb) σ H Q := by
  obtain ⟨ρ, d, er, hf, q⟩ := h
  obtain ⟨x, y, h1, h2, h3⟩ := b2_some hf
  exact ⟨ρ, x, er, h1, fun v H1 s1 r1 => ⟨ρ, y, er.same s1, h2, fun u H2 s2 r2 => hr x y d v u H2 Q (r1.same s2) r2 h3 fun v' H' s' r' => q v' H' ((s1.trans s2).trans s') r'⟩⟩
theorem top_m {g : D → D → Option D} {r : R2} (hr : RulM X.K g r) {σ : L2.St} {H : Hp} {Q : VK} (h : tM X.K (b2 g fa fb) σ H Q) : tOp r (tW X.K fa) (tW X.K fb) σ H Q := by
  obtain ⟨ρ, d, er, hf, q⟩ := h
  obtain ⟨x, y, h1, h2, h3⟩ := b2_some hf
  exact ⟨ρ, x, er, h1, fun v H1 s1 r1 => ⟨ρ, y, er.same s1, h2, fun u H2 s2 r2 => hr x y d v u H2 Q (r1.same s2) r2 h3 fun v' H' s' r' => q v' H' ((s1.trans s2).trans s') (r'.back (s1.trans s2))⟩⟩
theorem fe_op {op : Operator} {g : D → D → Option D} {r : R2} (ho : OpR X (binaryOp op) r) (hr : RulF X.K g r) (ha : WE X a fa) (hb : WE X b fb) : FE X (.BinOp a op b pos) (b2 g fa fb) :=
  PE.weak (pe_op ho ha hb) fun σ H Q h => top_f hr h
theorem me_op {op : Operator} {g : D → D → Option D} {r : R2} (ho : OpR X (binaryOp op) r) (hr : RulM X.K g r) (ha : WE X a fa) (hb : WE X b fb) : ME X (.BinOp a op b pos) (b2 g fa fb) :=
  PE.weak (pe_op ho ha hb) fun σ H Q h => top_m hr h

/-! ### numbers -/
theorem repW_int {K : PySem.W.Frag} {H : Hp} {i : Int} {v : V} (h : RepW K H (.int i) v) : v = .int i := by
  have h : RepF K H (.int i) v := h
  simpa only [RepF] using h
theorem repW_str {K : PySem.W.Frag} {H : Hp} {i : Str} {v : V} (h : RepW K H (.str i) v) : v = .str i := by
  have h : RepF K H (.str i) v := h
  simpa only [RepF] using h
theorem repW_bl {K : PySem.W.Frag} {H : Hp} {i : Bool} {v : V} (h : RepW K H (.bl i) v) : v = .bl i := by
  have h : RepF K H (.bl i) v := h
  simpa only [RepF] using h
theorem repW_non {K : PySem.W.Frag} {H : Hp} {v : V} (h : RepW K H .non v) : v = .non := by
  have h : RepF K H .non v := h
  simpa only [RepF] using h
theorem repW_tup {K : PySem.W.Frag} {H : Hp} {ds : List D} {v : V} (h : RepW K H (.tup ds) v) : ∃ a vs, v = .ref a ∧ SqT K H a vs ∧ RepL K H ds vs := by
  have h : RepF K H (.tup ds) v := h
  simpa only [RepF] using h
theorem repF_int {K : PySem.W.Frag} {H : Hp} {i : Int} : RepF K H (.int i) (.int i) := by simp only [RepF]
theorem repF_bl {K : PySem.W.Frag} {H : Hp} {i : Bool} : RepF K H (.bl i) (.bl i) := by simp only [RepF]
theorem repF_str {K : PySem.W.Frag} {H : Hp} {i : Str} : RepF K H (.str i) (.str i) := by simp only [RepF]
theorem repF_non {K : PySem.W.Frag} {H : Hp} : RepF K H .non .non := by simp only [RepF]
theorem repF_tup {K : PySem.W.Frag} {H : Hp} {a : Addr} {ds : List D} {vs : List V} (h : SqT K H a vs) (r : RepL K H ds vs) : RepF K H (.tup ds) (.ref a) := by
  simp only [RepF]; exact ⟨a, vs, rfl, h, r⟩

def gSub : D → D → Option D
  | .int i, .int j => some (.int (i - j))
  | _, _ => none
theorem rul_sub {K : PySem.W.Frag} : RulF K gSub (rI0 fun i j => .int (i - j)) := fun dx dy d x y H Q r1 r2 h q => by
  cases dx <;> cases dy <;> simp only [gSub, reduceCtorEq] at h
  cases h
  exact ⟨_, _, repW_int r1, repW_int r2, q _ H (Same.refl H) repF_int⟩
theorem fe_sub (ha : WE X a fa) (hb : WE X b fb) : FE X (.BinOp a .Sub b pos) (b2 gSub fa fb) := fe_op op_sub rul_sub ha hb
/-- a test that nothing computes -/
noncomputable def cdec (p : Prop) : Bool := @decide p (Classical.propDecidable p)
theorem cdec_iff {p : Prop} : cdec p = true ↔ p := by unfold cdec; exact @decide_eq_true_iff p (Classical.propDecidable p)
noncomputable def gFdiv : D → D → Option D
  | .int i, .int j => if cdec (0 < j ∧ j < 1073741824) = true then some (.int (i / j)) else none
  | _, _ => none
theorem rul_fdiv {K : PySem.W.Frag} : RulF K gFdiv (rI CDiv fun i j => .int (i / j)) := fun dx dy d x y H Q r1 r2 h q => by
  cases dx <;> cases dy <;> simp only [gFdiv, reduceCtorEq] at h
  split at h
  · rename_i hc
    cases h
    exact ⟨_, _, repW_int r1, repW_int r2, cdec_iff.mp hc, q _ H (Same.refl H) repF_int⟩
  · cases h
theorem fe_fdiv (ha : WE X a fa) (hb : WE X b fb) : FE X (.BinOp a .FloorDiv b pos) (b2 gFdiv fa fb) := fe_op op_fdiv rul_fdiv ha hb
def gMod : D → D → Option D
  | .int i, .int j => if 0 < j then some (.int (i % j)) else none
  | _, _ => none
theorem rul_mod {K : PySem.W.Frag} : RulF K gMod (rI (fun _ j => 0 < j) fun i j => .int (i % j)) := fun dx dy d x y H Q r1 r2 h q => by
  cases dx <;> cases dy <;> simp only [gMod, reduceCtorEq] at h
  split at h
  · rename_i hc
    cases h
    exact ⟨_, _, repW_int r1, repW_int r2, hc, q _ H (Same.refl H) repF_int⟩
  · cases h
theorem fe_mod (ha : WE X a fa) (hb : WE X b fb) : FE X (.BinOp a .Mod b pos) (b2 gMod fa fb) := fe_op op_mod rul_mod ha hb
def gPow : D → D → Option D
  | .int i, .int j => if 0 ≤ j ∧ j ≤ 1000000 ∧ i.natAbs < 2 ^ 64 then some (.int (i ^ j.toNat)) else none
  | _, _ => none
theorem rul_pow {K : PySem.W.Frag} : RulF K gPow (rI CPow fun i j => .int (i ^ j.toNat)) := fun dx dy d x y H Q r1 r2 h q => by
  cases dx <;> cases dy <;> simp only [gPow, reduceCtorEq] at h
  split at h
  · rename_i hc
    cases h
    exact ⟨_, _, repW_int r1, repW_int r2, hc, q _ H (Same.refl H) repF_int⟩
  · cases h
theorem fe_pow (ha : WE X a fa) (hb : WE X b fb) : FE X (.BinOp a .Pow b pos) (b2 gPow fa fb) := fe_op op_pow rul_pow ha hb
def fNeg (fa : Rho → Option D) : Rho → Option D := fun ρ => (fa ρ).bind fun x => match x with
  | .int i => some (.int (-i))
  | _ => none
theorem fe_neg (ha : WE X a fa) : FE X (.UnaryOp .USub a pos) (fNeg fa) := PE.weak (pe_un un_neg ha) fun σ H Q ⟨ρ, d, er, hf, q⟩ => by
  obtain ⟨x, h1, h2⟩ := Option.bind_eq_some_iff.mp hf
  refine ⟨ρ, x, er, h1, fun v H1 s1 r1 => ?_⟩
  cases x <;> simp only [reduceCtorEq] at h2
  cases h2
  exact ⟨_, repW_int r1, q _ H1 s1 repF_int⟩
end
end PL
/-! ### part PL3 -/
namespace PL
open PySem PySem.Spec PyProof.Rows L2

theorem repW_lst {K : PySem.W.Frag} {H : Hp} {ds : List D} {v : V} (h : RepW K H (.lst ds) v) : ∃ a vs, v = .ref a ∧ Rd H a (.lst vs) ∧ RepL K H ds vs := h
theorem inv_rdL {X : Cx} {pins : List (Addr × Obj)} {σ : L2.St} {H : Hp} {s : Shared} {a : Addr} {xs : List V} (I : Inv X pins σ H s) (h : Rd H a (.lst xs)) :
    xs.length ≤ sizeLine ∧ ∃ (its : List Value) (n : Nat), Vals xs its ∧ xs.length = its.length ∧ s.heap.get? a = some { cls := .type "list", data := .seq its.toArray n } := by
  obtain ⟨z, its, n, r, e⟩ := h.ok I.hok
  exact ⟨z, its, n, r, r.length, e⟩

/-! ### + -/
def rCatL : R2 := fun x y H Q => ∃ l b xs zs, x = .ref l ∧ y = .ref b ∧ Rd H l (.lst xs) ∧ Rd H b (.lst zs) ∧ xs.length + zs.length ≤ sizeLine ∧ ∀ p, H p = none → Q (.ref p) (upd H p (.lst (xs ++ zs)))
section
variable {X : Cx}
theorem op_catL : OpR X (binaryOp .Add) rCatL := by
  intro pins s σ H x y v u Q I rx ry h
  obtain ⟨l, b, xs, zs, rfl, rfl, hH, hB, hz, q⟩ := h
  cases rx
  cases ry
  obtain ⟨z, its, n, r, hl, e⟩ := inv_rdL I hH
  obtain ⟨z2, its2, n2, r2, hl2, e2⟩ := inv_rdL I hB
  refine PySem.P.add_list e e2 ?_ (by rw [List.size_toArray, List.size_toArray]; omega)
  have ea : its.toArray ++ its2.toArray = (its ++ its2).toArray := by simp
  rw [ea]
  exact ⟨.ref _, _, I.lnew (t' := s.toks) (r.append r2) (by rw [List.length_append]; omega), rfl, q _ I.fresh⟩
/-- sizes that are always let in -/
def small (n : Nat) : Bool := decide (n ≤ 16777216)
theorem small_le {n : Nat} (h : small n = true) : n ≤ sizeLine := by rw [sizeLine_eq]; exact of_decide_eq_true h
def gAdd : D → D → Option D
  | .int i, .int j => some (.int (i + j))
  | .str x, .str y => if small (x.length + y.length) then some (.str (x ++ y)) else none
  | .tup xs, .tup ys => if small (xs.length + ys.length) then some (.tup (xs ++ ys)) else none
  | .lst xs, .lst ys => if small (xs.length + ys.length) then some (.opn (xs ++ ys)) else none
  | _, _ => none
def rAdd4 (K : PySem.W.Frag) : R2 := fun x y H Q => rI0 (fun i j => .int (i + j)) x y H Q ∨ (∃ i j, x = .str i ∧ y = .str j ∧ i.length + j.length ≤ sizeLine ∧ Q (.str (i ++ j)) H) ∨ rCatA K x y H Q ∨ rCatL x y H Q
theorem op_add4 : OpR X (binaryOp .Add) (rAdd4 X.K) := op_add.or (op_add_str.or (op_catA.or op_catL))
theorem rul_add {K : PySem.W.Frag} : RulM K gAdd (rAdd4 K) := fun dx dy d x y H Q r1 r2 h q => by
  cases dx <;> cases dy <;> simp only [gAdd, reduceCtorEq] at h
  · cases h
    exact .inl ⟨_, _, repW_int r1, repW_int r2, q _ H (Same.refl H) (RepM.of repF_int)⟩
  · split at h <;> cases h
    rename_i hs
    exact .inr (.inl ⟨_, _, repW_str r1, repW_str r2, small_le hs, q _ H (Same.refl H) (RepM.of repF_str)⟩)
  · split at h <;> cases h
    rename_i xs ys hs
    obtain ⟨a, vs, rfl, ha, ra⟩ := repW_tup r1
    obtain ⟨b, us, rfl, hb, rb⟩ := repW_tup r2
    refine .inr (.inr (.inl ⟨a, b, vs, us, rfl, rfl, ha, hb, by rw [ra.length, rb.length]; exact small_le hs, fun e => ?_, fun _ e => ?_, fun _ _ p hp => ?_⟩))
    · have e1 : xs = [] := by have := ra.length; rw [e] at this; exact List.eq_nil_of_length_eq_zero this.symm
      subst e1
      exact q _ H (Same.refl H) (repF_tup hb rb)
    · have e1 : ys = [] := by have := rb.length; rw [e] at this; exact List.eq_nil_of_length_eq_zero this.symm
      subst e1
      refine q _ H (Same.refl H) ?_
      rw [List.append_nil]
      exact repF_tup ha ra
    · refine q _ _ (same_new hp) ?_
      exact repF_tup (.of upd_same) ((ra.append rb).ext (Ext.of (same_new hp)))
  · split at h <;> cases h
    rename_i xs ys hs
    obtain ⟨a, vs, rfl, ha, ra⟩ := repW_lst r1
    obtain ⟨b, us, rfl, hb, rb⟩ := repW_lst r2
    refine .inr (.inr (.inr ⟨a, b, vs, us, rfl, rfl, ha, hb, by rw [ra.length, rb.length]; exact small_le hs, fun p hp => ?_⟩))
    refine q _ _ (same_new hp) ?_
    exact ⟨p, _, rfl, hp, upd_same, (ra.append rb).ext (Ext.of (same_new hp))⟩
variable {e a b : Expr} {f fa fb : Rho → Option D} {pos : Pos}
theorem me_add (ha : WE X a fa) (hb : WE X b fb) : ME X (.BinOp a .Add b pos) (b2 gAdd fa fb) := me_op op_add4 rul_add ha hb
theorem fe_add (ha : WE X a fa) (hb : WE X b fb) : FE X (.BinOp a .Add b pos) (fz (b2 gAdd fa fb)) := fe_of_me (me_add ha hb)

/-! ### * -/
theorem tuple_mul1 (l : Addr) (items : Array Value) (n : Nat) (dd : Option Addr) (sl : Array (Option Value)) (x : Int) (u : Tok) (c0 : (decide (x < -(2 ^ 63)) || decide (x ≥ 2 ^ 63)) = false) (c1 : (items.isEmpty || x == 1) = true) :
    Meets (Builtin.«tuple.__mul__» ⟨[.ref l, .int x u], []⟩) (fun _ R s => s.heap.get? l = some { cls := .type "tuple", dict := dd, data := .seq items n, slots := sl } ∧
      R (.ok (.ret (Value.ref l))) s) :=
  .of_wp fun prog w A R s h => by
    obtain ⟨hp, g, d, tk, os⟩ := s
    obtain ⟨hl, h⟩ := h
    have f1 := AutoSeq1.idx_int
    wp_walk using wpAny_loadPart' hl
    rw [c0]
    wp_walk using wpAny_loadPart' hl
    exact ⟨_, rfl, h⟩
theorem tuple_mul0 (l : Addr) (items : Array Value) (n : Nat) (dd : Option Addr) (sl : Array (Option Value)) (x : Int) (u : Tok) (c0 : (decide (x < -(2 ^ 63)) || decide (x ≥ 2 ^ 63)) = false) (c1 : (items.isEmpty || x == 1) = false) (c2 : (decide (x ≤ 0) || items.isEmpty) = true) :
    Meets (Builtin.«tuple.__mul__» ⟨[.ref l, .int x u], []⟩) (fun _ R s => s.heap.get? l = some { cls := .type "tuple", dict := dd, data := .seq items n, slots := sl } ∧
      R (.ok (.ret (Value.ref s.heap.objs.size))) { s with heap := s.heap.push { cls := Value.type "tuple", data := Data.seq #[] }, toks := s.toks }) :=
  .of_wp fun prog w A R s h => by
    obtain ⟨hp, g, d, tk, os⟩ := s
    obtain ⟨hl, h⟩ := h
    have f1 := AutoSeq1.idx_int
    wp_walk using wpAny_loadPart' hl
    rw [c0]
    wp_walk using wpAny_loadPart' hl
    exact ⟨_, rfl, h⟩
def rRepT1 (K : PySem.W.Frag) : R2 := fun x y H Q => ∃ l xs, x = .ref l ∧ y = .int 1 ∧ SqT K H l xs ∧ Q (.ref l) H
def rRepT0 (K : PySem.W.Frag) : R2 := fun x y H Q => ∃ l xs k, x = .ref l ∧ y = .int k ∧ SqT K H l xs ∧ xs ≠ [] ∧ k ≤ 0 ∧ -(2 ^ 62) ≤ k ∧ ∀ p, H p = none → Q (.ref p) (upd H p (.tup []))
theorem op_repT1 : OpR X (binaryOp .Mult) (rRepT1 X.K) := by
  intro pins s σ H x y v u Q I rx ry h
  obtain ⟨l, xs, rfl, rfl, hT, q⟩ := h
  cases rx
  obtain ⟨t, rfl⟩ := ry
  obtain ⟨its, r, ⟨⟨cls, dd, data, sl⟩, ho, hc, n, hd⟩, hs⟩ := I.tuple hT
  simp only at hc hd
  subst hc hd
  refine wpAny_binaryOp_repeat_ref (T := "tuple") (U := "int") (by decide) ⟨_, ho, rfl⟩ (fun s' => typeIs_int s' 1 t) noFill_tuple_mul F.fills_int_mul F.slot_int_rmul repeat_tuple F.slot_int_index.lookup
    (call_meets F.slot_int_rmul (typeIs_int s 1 t) F.entry_int_rmul (F.args_int_rmul_2 _ _) (int_rmul_tuple 1 t l its.toArray n dd sl)
      ⟨ho, rfl, ⟨_, ho, rfl⟩, call_meets F.slot_tuple_mul ⟨_, ho, rfl⟩ F.entry_tuple_mul (F.args_tuple_mul_2 _ _) (tuple_mul1 l its.toArray n dd sl 1 t (by decide) (by simp)) ⟨ho, ?_⟩⟩)
  exact ⟨.ref l, H, I, rfl, q⟩
theorem op_repT0 : OpR X (binaryOp .Mult) (rRepT0 X.K) := by
  intro pins s σ H x y v u Q I rx ry h
  obtain ⟨l, xs, k, rfl, rfl, hT, hne, h1, h2, q⟩ := h
  cases rx
  obtain ⟨t, rfl⟩ := ry
  obtain ⟨its, r, ⟨⟨cls, dd, data, sl⟩, ho, hc, n, hd⟩, hs⟩ := I.tuple hT
  simp only at hc hd
  subst hc hd
  have hle : its.length = xs.length := r.length.symm
  have hi : its.toArray.isEmpty = false := by
    cases its with
    | nil => exact absurd (List.eq_nil_of_length_eq_zero hle.symm) hne
    | cons a b => rfl
  have c0 : (decide (k < -(2 ^ 63)) || decide (k ≥ 2 ^ 63)) = false := by
    rw [decide_eq_false (by omega), decide_eq_false (by omega)] <;> rfl
  have c1 : (its.toArray.isEmpty || k == 1) = false := by
    rw [hi, Bool.false_or]
    exact beq_eq_false_iff_ne.mpr (by omega)
  have c2 : (decide (k ≤ 0) || its.toArray.isEmpty) = true := by
    rw [decide_eq_true h1, Bool.true_or]
  refine wpAny_binaryOp_repeat_ref (T := "tuple") (U := "int") (by decide) ⟨_, ho, rfl⟩ (fun s' => typeIs_int s' k t) noFill_tuple_mul F.fills_int_mul F.slot_int_rmul repeat_tuple F.slot_int_index.lookup
    (call_meets F.slot_int_rmul (typeIs_int s k t) F.entry_int_rmul (F.args_int_rmul_2 _ _) (int_rmul_tuple k t l its.toArray n dd sl)
      ⟨ho, rfl, ⟨_, ho, rfl⟩, call_meets F.slot_tuple_mul ⟨_, ho, rfl⟩ F.entry_tuple_mul (F.args_tuple_mul_2 _ _) (tuple_mul0 l its.toArray n dd sl k t c0 c1 c2) ⟨ho, ?_⟩⟩)
  refine ⟨.ref s.heap.objs.size, _, I.laid (t' := s.toks) (o := .tup []) (fun b ob q => Heap.get?_push_of_some _ q) (Nat.le_refl _) ?_, rfl, q _ (I.hok.fresh (Nat.le_refl _))⟩
  exact ⟨Nat.zero_le _, [], .nil, IsTup.new _ _⟩
def rRepL : R2 := fun x y H Q => ∃ l k xs, x = .ref l ∧ y = .int k ∧ Rd H l (.lst xs) ∧ -(2 ^ 63) ≤ k ∧ k < 2 ^ 63 ∧ xs.length * k.toNat ≤ sizeLine ∧
  ∀ p, H p = none → Q (.ref p) (upd H p (.lst (List.replicate k.toNat xs).flatten))
theorem op_repL : OpR X (binaryOp .Mult) rRepL := by
  intro pins s σ H x y v u Q I rx ry h
  obtain ⟨l, k, xs, rfl, rfl, hH, h1, h2, hz, q⟩ := h
  cases rx
  obtain ⟨t, rfl⟩ := ry
  obtain ⟨z, its, n, r, hl, e⟩ := inv_rdL I hH
  have hlen : its.toArray.size * k.toNat ≤ sizeLine := by rw [List.size_toArray, ← hl]; exact hz
  have hcap : ¬ its.toArray.size * k.toNat > (2 ^ 63 - 1) / 8 := by
    have : (sizeLine : Nat) ≤ (2 ^ 63 - 1) / 8 := by decide
    omega
  have hfit : ¬ (!Builtin.List.listFitsIndex k) = true := by
    rw [fitsIndex_both h1 h2]
    exact Bool.false_ne_true
  have hlong : ¬ Builtin.List.listTooLong (its.toArray.size * k.toNat) = true := by
    rw [notLongL hlen]
    exact Bool.false_ne_true
  have hnew : List.foldl (fun x1 x2 => x1 ++ x2) #[] (List.replicate (if its.toArray.isEmpty = true then 0 else k.toNat) its.toArray) = (List.replicate k.toNat its).flatten.toArray := by
    have f0 : ∀ m : Nat, List.foldl (fun x1 x2 => x1 ++ x2) #[] (List.replicate m its.toArray) = (List.replicate m its).flatten.toArray := fun m => by
      have := foldl_rep its m []
      rw [List.nil_append] at this
      exact this
    rw [f0]
    cases its with
    | nil => simp
    | cons a r' => rw [if_neg (by simp)]
  refine wpAny_binaryOp_repeat_ref (T := "list") (U := "int") (by decide) ⟨_, e, rfl⟩ (fun s' => typeIs_int s' k t) noFill_list_mul F.fills_int_mul F.slot_int_rmul repeat_list F.slot_int_index.lookup
    (call_meets F.slot_int_rmul (typeIs_int s k t) F.entry_int_rmul (F.args_int_rmul_2 _ _) (int___rmul___int_list k t l its.toArray n)
      ⟨e, rfl, ⟨_, e, rfl⟩, call_meets F.slot_list_mul ⟨_, e, rfl⟩ F.entry_list_mul (F.args_list_mul_2 _ _) (AutoListH.list___mul___list_int_3 l its.toArray n k t hfit hcap hlong) ⟨e, ?_⟩⟩)
  rw [hnew]
  exact ⟨.ref _, _, I.lnew (t' := s.toks) (r.rep k.toNat) (by rw [PyProof.Rows.lm_len_rep_flat, Nat.mul_comm]; exact hz), rfl, q _ I.fresh⟩
noncomputable def CMulB (i j : Int) : Bool := cdec ((-(2 ^ 64) < i ∧ i < 2 ^ 64) ∨ (-(2 ^ 64) < j ∧ j < 2 ^ 64))
theorem cmul_ok {i j : Int} (h : CMulB i j = true) : CMul i j := by
  exact cdec_iff.mp h
/-- repeat: the list of items k times (k up to 1000) -/
def rep (k : Int) (xs : List D) : List D := (List.replicate k.toNat xs).flatten
noncomputable def gMul : D → D → Option D
  | .int i, .int j => if CMulB i j then some (.int (i * j)) else none
  | .tup xs, .int k => if xs ≠ [] ∧ xs.length ≤ 1000 ∧ -1000 ≤ k ∧ k ≤ 1000 then some (.tup (rep k xs)) else none
  | .lst xs, .int k => if xs.length ≤ 1000 ∧ -1000 ≤ k ∧ k ≤ 1000 then some (.opn (rep k xs)) else none
  | _, _ => none
def rMul4 (K : PySem.W.Frag) : R2 := fun x y H Q => rI CMul (fun i j => .int (i * j)) x y H Q ∨ rRepT K x y H Q ∨ rRepT1 K x y H Q ∨ rRepT0 K x y H Q ∨ rRepL x y H Q
theorem op_mul4 : OpR X (binaryOp .Mult) (rMul4 X.K) := op_mul.or (op_repT.or (op_repT1.or (op_repT0.or op_repL)))
theorem rul_mul {K : PySem.W.Frag} : RulM K gMul (rMul4 K) := fun dx dy d x y H Q r1 r2 h q => by
  cases dx <;> cases dy <;> simp only [gMul, reduceCtorEq] at h
  · split at h <;> cases h
    rename_i hc
    exact .inl ⟨_, _, repW_int r1, repW_int r2, cmul_ok hc, q _ H (Same.refl H) (RepM.of repF_int)⟩
  · split at h <;> cases h
    rename_i xs k hc
    obtain ⟨hne, hl, h1, h2⟩ := hc
    obtain ⟨a, vs, rfl, ha, ra⟩ := repW_tup r1
    have e2 := repW_int r2
    subst e2
    have hlen := ra.length
    have hvne : vs ≠ [] := fun e => hne (by rw [e] at hlen; exact List.eq_nil_of_length_eq_zero hlen.symm)
    by_cases k1 : k = 1
    · subst k1
      refine .inr (.inr (.inl ⟨a, vs, rfl, rfl, ha, q _ H (Same.refl H) ?_⟩))
      have : rep 1 xs = xs := by simp [rep]
      rw [this]
      exact repF_tup ha ra
    · by_cases k0 : k ≤ 0
      · refine .inr (.inr (.inr (.inl ⟨a, vs, k, rfl, rfl, ha, hvne, k0, by omega, fun p hp => q _ _ (same_new hp) ?_⟩)))
        have : rep k xs = [] := by
          have : k.toNat = 0 := by omega
          simp [rep, this]
        rw [this]
        exact repF_tup (.of upd_same) .nil
      · refine .inr (.inl ⟨a, k, vs, rfl, rfl, ha, hvne, by omega, h2, by omega, fun p hp => q _ _ (same_new hp) ?_⟩)
        exact repF_tup (.of upd_same) ((ra.flat k.toNat).ext (Ext.of (same_new hp)))
  · split at h <;> cases h
    rename_i xs k hc
    obtain ⟨hl, h1, h2⟩ := hc
    obtain ⟨a, vs, rfl, ha, ra⟩ := repW_lst r1
    have e2 := repW_int r2
    subst e2
    have hlen := ra.length
    refine .inr (.inr (.inr (.inr ⟨a, k, vs, rfl, rfl, ha, by omega, by omega, ?_, fun p hp => q _ _ (same_new hp) ?_⟩)))
    · rw [sizeLine_eq]
      have : vs.length * k.toNat ≤ 1000 * 1000 := Nat.mul_le_mul (by omega) (by omega)
      omega
    · exact ⟨p, _, rfl, hp, upd_same, (ra.flat k.toNat).ext (Ext.of (same_new hp))⟩
theorem me_mul (ha : WE X a fa) (hb : WE X b fb) : ME X (.BinOp a .Mult b pos) (b2 gMul fa fb) := me_op op_mul4 rul_mul ha hb
theorem fe_mul (ha : WE X a fa) (hb : WE X b fb) : FE X (.BinOp a .Mult b pos) (fz (b2 gMul fa fb)) := fe_of_me (me_mul ha hb)
end
end PL
/-! ### part PL4 -/
namespace PL
open PySem PySem.Spec PyProof.Rows L2

/-! ### == -/
mutual
def eqD : D → D → Bool
  | .non, .non => true
  | .bl a, .bl b => a == b
  | .bl a, .int j => (if a then 1 else 0) == j
  | .int i, .bl b => i == (if b then 1 else 0)
  | .int i, .int j => i == j
  | .str x, .str y => x == y
  | .lst xs, .lst ys => eqL xs ys
  | .tup xs, .tup ys => eqL xs ys
  | _, _ => false
def eqL : List D → List D → Bool
  | [], [] => true
  | x :: xs, y :: ys => eqD x y && eqL xs ys
  | _, _ => false
end
mutual
def toPy : D → PyData
  | .non => .none
  | .bl b => .bool b
  | .int i => .int i
  | .str x => .str x
  | .tup xs => .tuple (toPyL xs)
  | .lst xs => .list (toPyL xs)
  | .opn _ => .dict []
  | .scr _ => .dict []
  | .dic _ => .dict []
def toPyL : List D → List PyData
  | [] => []
  | x :: xs => toPy x :: toPyL xs
end
/-! data that == reads: at most n deep -/
mutual
def okD : Nat → D → Bool
  | _, .non => true
  | _, .bl _ => true
  | _, .int _ => true
  | _, .str x => x.cps.all (· < 0x110000)
  | n + 1, .tup xs => okL n xs
  | n + 1, .lst xs => okL n xs
  | _, _ => false
def okL : Nat → List D → Bool
  | _, [] => true
  | n, x :: xs => okD n x && okL n xs
end
mutual
theorem eqv_toPy : ∀ (n m : Nat) (a b : D), okD n a = true → okD m b = true → PyData.eqv (toPy a) (toPy b) = eqD a b := by
  intro n m a b h1 h2
  cases a <;> cases b <;> (try (cases n <;> simp only [okD, Bool.false_eq_true] at h1)) <;> (try (cases m <;> simp only [okD, Bool.false_eq_true] at h2)) <;> simp only [toPy, PyData.eqv, eqD]
  all_goals exact eqvL_toPy _ _ _ _ h1 h2
theorem eqvL_toPy : ∀ (n m : Nat) (a b : List D), okL n a = true → okL m b = true → PyData.eqvAll (toPyL a) (toPyL b) = eqL a b
  | _, _, [], [], _, _ => by simp only [toPyL, PyData.eqvAll, eqL]
  | _, _, [], _ :: _, _, _ => by simp only [toPyL, PyData.eqvAll, eqL]
  | _, _, _ :: _, [], _, _ => by simp only [toPyL, PyData.eqvAll, eqL]
  | n, m, x :: xs, y :: ys, h1, h2 => by
    simp only [okL, Bool.and_eq_true] at h1 h2
    simp only [toPyL, PyData.eqvAll, eqL]
    rw [eqv_toPy n m x y h1.1 h2.1, eqvL_toPy n m xs ys h1.2 h2.2]
end
mutual
theorem ok_shape : ∀ (n : Nat) (a : D), okD n a = true → (toPy a).canLay0 = true ∧ (toPy a).depth ≤ n := by
  intro n a h
  cases a <;> cases n <;> simp only [okD, Bool.false_eq_true] at h <;> simp only [toPy, PyData.canLay0, PyData.depth, Nat.zero_le, true_and, and_true]
  all_goals first
    | exact h
    | (obtain ⟨h1, h2⟩ := okL_shape _ _ h
       exact ⟨h1, Nat.succ_le_succ h2⟩)
theorem okL_shape : ∀ (n : Nat) (a : List D), okL n a = true → PyData.canLayAll0 (toPyL a) = true ∧ PyData.depthAll (toPyL a) ≤ n
  | n, [], _ => by simp [toPyL, PyData.canLayAll0, PyData.depthAll]
  | n, x :: xs, h => by
    simp only [okL, Bool.and_eq_true] at h
    obtain ⟨a1, a2⟩ := ok_shape n x h.1
    obtain ⟨b1, b2⟩ := okL_shape n xs h.2
    simp only [toPyL, PyData.canLayAll0, PyData.depthAll, a1, b1, Bool.and_self, true_and]
    exact Nat.max_le.mpr ⟨a2, b2⟩
end
theorem ok_shaped {n : Nat} {a : D} (hn : n ≤ 64) (h : okD n a = true) : SeqAt.shaped (toPy a) = true := by
  obtain ⟨h1, h2⟩ := ok_shape n a h
  unfold SeqAt.shaped
  rw [h1, decide_eq_true (Nat.le_trans h2 hn)]
  rfl
mutual
theorem dp_of {K : PySem.W.Frag} {H : Hp} : ∀ (n : Nat) (d : D) (v : V), okD n d = true → RepF K H d v → Dp K H v (toPy d) := by
  intro n d v hk h
  cases d <;> cases n <;> simp only [okD, Bool.false_eq_true] at hk <;> simp only [RepF] at h <;> simp only [toPy]
  all_goals first
    | (subst h; constructor)
    | (obtain ⟨a, vs, rfl, h2, h3⟩ := h
       exact .tup h2 (dpL_of _ _ _ hk h3))
    | (obtain ⟨a, vs, o, rfl, h2, h3⟩ := h
       exact .lst (.inl (.inr ⟨o, h2⟩)) (dpL_of _ _ _ hk h3))
theorem dpL_of {K : PySem.W.Frag} {H : Hp} : ∀ (n : Nat) (d : List D) (v : List V), okL n d = true → RepL K H d v → DpAll K H v (toPyL d)
  | n, [], v, hk, h => by
    simp only [RepL] at h
    subst h
    simp only [toPyL]
    exact .nil
  | n, x :: xs, v, hk, h => by
    simp only [okL, Bool.and_eq_true] at hk
    simp only [RepL] at h
    obtain ⟨u, r, rfl, h2, h3⟩ := h
    simp only [toPyL]
    exact .cons (dp_of n x u hk.1 h2) (dpL_of n xs r hk.2 h3)
end
theorem dpW_of {K : PySem.W.Frag} {H : Hp} {n : Nat} {d : D} {v : V} (hk : okD n d = true) (h : RepW K H d v) : Dp K H v (toPy d) := by
  cases d with
  | lst ds =>
    cases n with
    | zero => simp [okD] at hk
    | succ n =>
      simp only [okD] at hk
      obtain ⟨a, vs, rfl, h2, h3⟩ := h
      simp only [toPy]
      exact .lst (.inl h2) (dpL_of _ _ _ hk h3)
  | _ => exact dp_of n _ _ hk h
/-- how deep data may be where it is compared -/
abbrev DEEP : Nat := 12
def gEq : D → D → Option D := fun x y => if okD DEEP x && okD DEEP y then some (.bl (eqD x y)) else none
def gNe : D → D → Option D := fun x y => if okD DEEP x && okD DEEP y then some (.bl (!eqD x y)) else none
theorem rul_eq {K : PySem.W.Frag} : RulF K gEq (rEqD K) := fun dx dy d x y H Q r1 r2 h q => by
  unfold gEq at h
  split at h <;> cases h
  rename_i hk
  rw [Bool.and_eq_true] at hk
  refine ⟨toPy dx, toPy dy, dpW_of hk.1 r1, dpW_of hk.2 r2, ok_shaped (by decide) hk.1, ok_shaped (by decide) hk.2, ?_⟩
  rw [eqv_toPy _ _ _ _ hk.1 hk.2]
  exact q _ H (Same.refl H) repF_bl
theorem rul_ne {K : PySem.W.Frag} : RulF K gNe (rNeD K) := fun dx dy d x y H Q r1 r2 h q => by
  unfold gNe at h
  split at h <;> cases h
  rename_i hk
  rw [Bool.and_eq_true] at hk
  refine ⟨toPy dx, toPy dy, dpW_of hk.1 r1, dpW_of hk.2 r2, ok_shaped (by decide) hk.1, ok_shaped (by decide) hk.2, ?_⟩
  rw [eqv_toPy _ _ _ _ hk.1 hk.2]
  exact q _ H (Same.refl H) repF_bl
/-- in a list, a tuple, a text -/
def anyD (x : D) : List D → Bool
  | [] => false
  | y :: ys => eqD y x || anyD x ys
theorem any_toPy {n m : Nat} {x : D} : ∀ {ys : List D}, okD n x = true → okL m ys = true → ((toPyL ys).any fun z => PyData.eqv z (toPy x)) = anyD x ys
  | [], _, _ => by simp [toPyL, anyD]
  | y :: ys, h1, h2 => by
    simp only [okL, Bool.and_eq_true] at h2
    simp only [toPyL, List.any_cons, anyD]
    rw [any_toPy h1 h2.2, eqv_toPy _ _ _ _ h2.1 h1]

section
variable {X : Cx} {e a b c : Expr} {f fa fb fc : Rho → Option D} {pos : Pos}
/-- tuples: x in t -/
def rInT (K : PySem.W.Frag) (neg : Bool) : R2 := fun x y H Q => ∃ d ds, Dp K H x d ∧ Dp K H y (.tuple ds) ∧ SeqAt.shaped d = true ∧ SeqAt.shaped (.tuple ds) = true ∧ Q (.bl (if neg then !ds.any fun z => PyData.eqv z d else ds.any fun z => PyData.eqv z d)) H
theorem inT_aux (hu : X.A.units + 65 < cLine) {pins : List (Addr × Obj)} {s : Shared} {σ : L2.St} {H : Hp} (I : Inv X pins σ H s) {d : PyData} {ds : List PyData} {x y : V} {v u : Value} (rx : RelV x v) (ry : RelV y u) (hd : Dp X.K H x d) (he : Dp X.K H y (.tuple ds)) (sd : SeqAt.shaped d = true) (se : SeqAt.shaped (.tuple ds) = true) :
    ∃ (l : Addr) (its : List Value), u = .ref l ∧ IsTup s.heap l its.toArray ∧ its.map (SeqAt.readOf s.heap) = ds ∧ ∀ w ∈ its, SeqAt.EqAt X.A.in1 s w v (PyData.eqv (SeqAt.readOf s.heap w) d) := by
  obtain ⟨as, r1⟩ := Dp.reads I d x v hd rx
  have hxs : PyData.canLayAll0 ds = true := SeqAt.canLay_of_shaped se
  have hroom : X.A.units + 1 + min (PyData.depthAll ds) d.depth < cLine := room_in_shaped sd hu
  cases he with
  | tup hs ha =>
    cases ry
    obtain ⟨its, rv, ht, hlen⟩ := I.tuple hs
    obtain ⟨as', h4⟩ := Dp.readsAll I ds _ its ha rv
    refine ⟨_, its, rfl, ht, SeqAt.readsAll_map ds its as' hxs h4, fun w hw => ?_⟩
    exact SeqAt.items_eqAt (vs := its.toArray) (show ReadsAll s.heap its.toArray.toList ds as' from h4) r1 hxs (SeqAt.canLay_of_shaped sd) hroom w (by simpa using hw)
theorem op_inT (hu : X.A.units + 65 < cLine) : OpR X (compareOp .In) (rInT X.K false) := by
  intro pins s σ H x y v u Q I rx ry h
  obtain ⟨d, ds, hd, he, sd, se, q⟩ := h
  obtain ⟨l, its, rfl, ht, hm, ha⟩ := inT_aux hu I rx ry hd he sd se
  refine SeqAt.in_tupleAt (fun w => PyData.eqv (SeqAt.readOf s.heap w) d) ht (fun w hw => ha w (by simpa using hw)) ⟨.bl _, H, I, rfl, ?_⟩
  have e1 : (its.toArray.any fun w => PyData.eqv (SeqAt.readOf s.heap w) d) = ds.any fun z => PyData.eqv z d := by
    rw [← hm, List.any_map]; simp [Function.comp_def]
  rw [e1]; exact q
theorem op_notInT (hu : X.A.units + 65 < cLine) : OpR X (compareOp .NotIn) (rInT X.K true) := by
  intro pins s σ H x y v u Q I rx ry h
  obtain ⟨d, ds, hd, he, sd, se, q⟩ := h
  obtain ⟨l, its, rfl, ht, hm, ha⟩ := inT_aux hu I rx ry hd he sd se
  refine SeqAt.notIn_tupleAt (fun w => PyData.eqv (SeqAt.readOf s.heap w) d) ht (fun w hw => ha w (by simpa using hw)) ⟨.bl _, H, I, rfl, ?_⟩
  have e1 : (its.toArray.any fun w => PyData.eqv (SeqAt.readOf s.heap w) d) = ds.any fun z => PyData.eqv z d := by
    rw [← hm, List.any_map]; simp [Function.comp_def]
  rw [e1]; exact q
end
end PL
/-! ### part PL5 -/
namespace PL
open PySem PySem.Spec PyProof.Rows L2

def asB : D → Option Bool
  | .bl b => some b
  | _ => none
theorem asB_some {d : D} {b : Bool} (h : asB d = some b) : d = .bl b := by cases d <;> simp [asB] at h; rw [h]
/-- a value's mirror as a test's -/
def tb (f : Rho → Option D) : Rho → Option Bool := fun ρ => (f ρ).bind asB
/-- a test's mirror as a value's -/
def vb (f : Rho → Option Bool) : Rho → Option D := fun ρ => (f ρ).map .bl
theorem repF_blv {K : PySem.W.Frag} {H : Hp} {b : Bool} {v : V} (h : RepF K H (.bl b) v) : v = .bl b := by simpa only [RepF] using h

def gLt : D → D → Option D
  | .int i, .int j => some (.bl (decide (i < j)))
  | _, _ => none
def gLe : D → D → Option D
  | .int i, .int j => some (.bl (decide (i ≤ j)))
  | _, _ => none
def gGt : D → D → Option D
  | .int i, .int j => some (.bl (decide (j < i)))
  | _, _ => none
def gGe : D → D → Option D
  | .int i, .int j => some (.bl (decide (j ≤ i)))
  | _, _ => none
theorem rul_lt {K : PySem.W.Frag} : RulF K gLt (rI0 fun i j => .bl (decide (i < j))) := fun dx dy d x y H Q r1 r2 h q => by
  cases dx <;> cases dy <;> simp only [gLt, reduceCtorEq] at h
  cases h
  exact ⟨_, _, repW_int r1, repW_int r2, q _ H (Same.refl H) repF_bl⟩
theorem rul_le {K : PySem.W.Frag} : RulF K gLe (rI0 fun i j => .bl (decide (i ≤ j))) := fun dx dy d x y H Q r1 r2 h q => by
  cases dx <;> cases dy <;> simp only [gLe, reduceCtorEq] at h
  cases h
  exact ⟨_, _, repW_int r1, repW_int r2, q _ H (Same.refl H) repF_bl⟩
theorem rul_gt {K : PySem.W.Frag} : RulF K gGt (rI0 fun i j => .bl (decide (j < i))) := fun dx dy d x y H Q r1 r2 h q => by
  cases dx <;> cases dy <;> simp only [gGt, reduceCtorEq] at h
  cases h
  exact ⟨_, _, repW_int r1, repW_int r2, q _ H (Same.refl H) repF_bl⟩
theorem rul_ge {K : PySem.W.Frag} : RulF K gGe (rI0 fun i j => .bl (decide (j ≤ i))) := fun dx dy d x y H Q r1 r2 h q => by
  cases dx <;> cases dy <;> simp only [gGe, reduceCtorEq] at h
  cases h
  exact ⟨_, _, repW_int r1, repW_int r2, q _ H (Same.refl H) repF_bl⟩
/-- is None -/
def gIs : D → D → Option D
  | .non, .non => some (.bl true)
  | .int _, .non | .str _, .non | .bl _, .non | .tup _, .non | .lst _, .non | .scr _, .non => some (.bl false)
  | .bl a, .bl b => some (.bl (decide (a = b)))
  | _, _ => none
def gIsNot : D → D → Option D
  | .non, .non => some (.bl false)
  | .int _, .non | .str _, .non | .bl _, .non | .tup _, .non | .lst _, .non | .scr _, .non => some (.bl true)
  | .bl a, .bl b => some (.bl (!decide (a = b)))
  | _, _ => none
def rIs2 : R2 := fun x y H Q => (y = .non ∧ Q (.bl (decide (x = .non))) H) ∨ rIsB x y H Q
def rIsNot2 : R2 := fun x y H Q => (y = .non ∧ Q (.bl (!decide (x = .non))) H) ∨ rNotB x y H Q
theorem repW_ref {K : PySem.W.Frag} {H : Hp} {d : D} {v : V} (h : RepW K H d v) (hd : (∃ xs, d = .tup xs) ∨ (∃ xs, d = .lst xs) ∨ ∃ xs, d = .scr xs) : ∃ a, v = .ref a := by
  rcases hd with ⟨xs, rfl⟩ | ⟨xs, rfl⟩ | ⟨xs, rfl⟩
  · obtain ⟨a, _, e, _⟩ := repW_tup h; exact ⟨a, e⟩
  · obtain ⟨a, _, e, _⟩ := repW_lst h; exact ⟨a, e⟩
  · have h : RepF K H (.scr xs) v := h
    simp only [RepF] at h
    obtain ⟨a, e, _⟩ := h; exact ⟨a, e⟩
theorem rul_is {K : PySem.W.Frag} : RulF K gIs rIs2 := fun dx dy d x y H Q r1 r2 h q => by
  cases dx <;> cases dy <;> simp only [gIs, reduceCtorEq] at h <;> cases h
  · have := repW_non r1; have := repW_non r2; subst_vars
    exact .inl ⟨rfl, q _ H (Same.refl H) repF_bl⟩
  · have := repW_bl r1; have := repW_non r2; subst_vars
    exact .inl ⟨rfl, q _ H (Same.refl H) repF_bl⟩
  · have := repW_bl r1; have := repW_bl r2; subst_vars
    exact .inr ⟨_, _, rfl, rfl, q _ H (Same.refl H) repF_bl⟩
  · have := repW_int r1; have := repW_non r2; subst_vars
    exact .inl ⟨rfl, q _ H (Same.refl H) repF_bl⟩
  · have := repW_str r1; have := repW_non r2; subst_vars
    exact .inl ⟨rfl, q _ H (Same.refl H) repF_bl⟩
  · obtain ⟨a, rfl⟩ := repW_ref r1 (.inl ⟨_, rfl⟩); have := repW_non r2; subst_vars
    exact .inl ⟨rfl, q _ H (Same.refl H) repF_bl⟩
  · obtain ⟨a, rfl⟩ := repW_ref r1 (.inr (.inl ⟨_, rfl⟩)); have := repW_non r2; subst_vars
    exact .inl ⟨rfl, q _ H (Same.refl H) repF_bl⟩
  · obtain ⟨a, rfl⟩ := repW_ref r1 (.inr (.inr ⟨_, rfl⟩)); have := repW_non r2; subst_vars
    exact .inl ⟨rfl, q _ H (Same.refl H) repF_bl⟩
theorem rul_isnot {K : PySem.W.Frag} : RulF K gIsNot rIsNot2 := fun dx dy d x y H Q r1 r2 h q => by
  cases dx <;> cases dy <;> simp only [gIsNot, reduceCtorEq] at h <;> cases h
  · have := repW_non r1; have := repW_non r2; subst_vars
    exact .inl ⟨rfl, q _ H (Same.refl H) repF_bl⟩
  · have := repW_bl r1; have := repW_non r2; subst_vars
    exact .inl ⟨rfl, q _ H (Same.refl H) repF_bl⟩
  · have := repW_bl r1; have := repW_bl r2; subst_vars
    exact .inr ⟨_, _, rfl, rfl, q _ H (Same.refl H) repF_bl⟩
  · have := repW_int r1; have := repW_non r2; subst_vars
    exact .inl ⟨rfl, q _ H (Same.refl H) repF_bl⟩
  · have := repW_str r1; have := repW_non r2; subst_vars
    exact .inl ⟨rfl, q _ H (Same.refl H) repF_bl⟩
  · obtain ⟨a, rfl⟩ := repW_ref r1 (.inl ⟨_, rfl⟩); have := repW_non r2; subst_vars
    exact .inl ⟨rfl, q _ H (Same.refl H) repF_bl⟩
  · obtain ⟨a, rfl⟩ := repW_ref r1 (.inr (.inl ⟨_, rfl⟩)); have := repW_non r2; subst_vars
    exact .inl ⟨rfl, q _ H (Same.refl H) repF_bl⟩
  · obtain ⟨a, rfl⟩ := repW_ref r1 (.inr (.inr ⟨_, rfl⟩)); have := repW_non r2; subst_vars
    exact .inl ⟨rfl, q _ H (Same.refl H) repF_bl⟩
/-- in -/
def inD : D → D → Option Bool
  | x, .lst ys => if okD DEEP x && okD DEEP (.lst ys) then some (anyD x ys) else none
  | x, .tup ys => if okD DEEP x && okD DEEP (.tup ys) then some (anyD x ys) else none
  | .str ⟨cs⟩, .str z => match cs.toList with
    | [c] => some (decide (c ∈ z.cps.toList))
    | _ => none
  | _, _ => none
def gIn : D → D → Option D := fun x y => (inD x y).map .bl
def gNotIn : D → D → Option D := fun x y => (inD x y).map fun b => .bl (!b)
def rIn3 (K : PySem.W.Frag) : R2 := fun x y H Q => rInD K x y H Q ∨ rInT K false x y H Q ∨ ∃ (c : Nat) (z : Str), x = .str ⟨#[c]⟩ ∧ y = .str z ∧ Q (.bl (decide (c ∈ z.cps.toList))) H
def rNotIn3 (K : PySem.W.Frag) : R2 := fun x y H Q => rNotInD K x y H Q ∨ rInT K true x y H Q ∨ ∃ (c : Nat) (z : Str), x = .str ⟨#[c]⟩ ∧ y = .str z ∧ Q (.bl (!decide (c ∈ z.cps.toList))) H
theorem one_arr {cs : Array Nat} {c : Nat} (h : cs.toList = [c]) : cs = #[c] := by
  have : cs.toList.toArray = [c].toArray := by rw [h]
  simpa using this
theorem inD_cases {K : PySem.W.Frag} {dx dy : D} {x y : V} {H : Hp} {b : Bool} (r1 : RepW K H dx x) (r2 : RepW K H dy y) (h : inD dx dy = some b) :
    (∃ d ds, Dp K H x d ∧ Dp K H y (.list ds) ∧ SeqAt.shaped d = true ∧ SeqAt.shaped (.list ds) = true ∧ (ds.any fun z => PyData.eqv z d) = b) ∨
    (∃ d ds, Dp K H x d ∧ Dp K H y (.tuple ds) ∧ SeqAt.shaped d = true ∧ SeqAt.shaped (.tuple ds) = true ∧ (ds.any fun z => PyData.eqv z d) = b) ∨
    ∃ (c : Nat) (z : Str), x = .str ⟨#[c]⟩ ∧ y = .str z ∧ decide (c ∈ z.cps.toList) = b := by
  cases dy with
  | lst ys =>
    have h' : (if okD DEEP dx && okD DEEP (.lst ys) then some (anyD dx ys) else none) = some b := by cases dx <;> exact h
    split at h' <;> cases h'
    rename_i hk
    rw [Bool.and_eq_true] at hk
    have d2 := dpW_of hk.2 r2
    have s2 := ok_shaped (by decide) hk.2
    simp only [toPy] at d2 s2
    refine .inl ⟨toPy dx, toPyL ys, dpW_of hk.1 r1, d2, ok_shaped (by decide) hk.1, s2, ?_⟩
    have hl : okL 11 ys = true := by simpa only [okD] using hk.2
    exact any_toPy hk.1 hl
  | tup ys =>
    have h' : (if okD DEEP dx && okD DEEP (.tup ys) then some (anyD dx ys) else none) = some b := by cases dx <;> exact h
    split at h' <;> cases h'
    rename_i hk
    rw [Bool.and_eq_true] at hk
    have d2 := dpW_of hk.2 r2
    have s2 := ok_shaped (by decide) hk.2
    simp only [toPy] at d2 s2
    refine .inr (.inl ⟨toPy dx, toPyL ys, dpW_of hk.1 r1, d2, ok_shaped (by decide) hk.1, s2, ?_⟩)
    have hl : okL 11 ys = true := by simpa only [okD] using hk.2
    exact any_toPy hk.1 hl
  | str z =>
    cases dx with
    | str x0 =>
      obtain ⟨cs⟩ := x0
      simp only [inD] at h
      split at h <;> cases h
      rename_i c hc
      have := one_arr hc
      subst this
      exact .inr (.inr ⟨c, z, repW_str r1, repW_str r2, rfl⟩)
    | _ => simp [inD] at h
  | _ => cases dx <;> simp [inD] at h
theorem rul_in {K : PySem.W.Frag} : RulF K gIn (rIn3 K) := fun dx dy d x y H Q r1 r2 h q => by
  obtain ⟨b, hb, rfl⟩ := Option.map_eq_some_iff.mp h
  have fin : Q (.bl b) H := q _ H (Same.refl H) repF_bl
  rcases inD_cases r1 r2 hb with ⟨d, ds, h1, h2, h3, h4, e⟩ | ⟨d, ds, h1, h2, h3, h4, e⟩ | ⟨c, z, h1, h2, e⟩
  · exact .inl ⟨d, ds, h1, h2, h3, h4, by rw [e]; exact fin⟩
  · exact .inr (.inl ⟨d, ds, h1, h2, h3, h4, by simp only [Bool.false_eq_true, if_false]; rw [e]; exact fin⟩)
  · exact .inr (.inr ⟨c, z, h1, h2, by rw [e]; exact fin⟩)
theorem rul_notin {K : PySem.W.Frag} : RulF K gNotIn (rNotIn3 K) := fun dx dy d x y H Q r1 r2 h q => by
  obtain ⟨b, hb, rfl⟩ := Option.map_eq_some_iff.mp h
  have fin : Q (.bl (!b)) H := q _ H (Same.refl H) repF_bl
  rcases inD_cases r1 r2 hb with ⟨d, ds, h1, h2, h3, h4, e⟩ | ⟨d, ds, h1, h2, h3, h4, e⟩ | ⟨c, z, h1, h2, e⟩
  · exact .inl ⟨d, ds, h1, h2, h3, h4, by rw [e]; exact fin⟩
  · exact .inr (.inl ⟨d, ds, h1, h2, h3, h4, by simp only [if_true]; rw [e]; exact fin⟩)
  · exact .inr (.inr ⟨c, z, h1, h2, by rw [e]; exact fin⟩)

section
variable {X : Cx} {e a b c : Expr} {es rest : List Expr} {f fa fb fc : Rho → Option D} {g g1 g2 : Rho → Option Bool} {pos : Pos}
theorem op_is2 : OpR X (compareOp .Is) rIs2 := op_isN.or op_isBl
theorem op_isnot2 : OpR X (compareOp .IsNot) rIsNot2 := op_notN.or op_notBl
theorem op_in3 (hu : X.A.units + 65 < cLine) : OpR X (compareOp .In) (rIn3 X.K) := (op_inD hu).or ((op_inT hu).or op_in_sign)
theorem op_notin3 (hu : X.A.units + 65 < cLine) : OpR X (compareOp .NotIn) (rNotIn3 X.K) := (op_notInD hu).or ((op_notInT hu).or op_notIn_sign)
/-- a rule for a comparison -/
structure CmpR (X : Cx) (op : CmpOp) (g : D → D → Option D) : Prop where
  has : ∃ r, OpR X (compareOp op) r ∧ RulF X.K g r
theorem c_lt : CmpR X .Lt gLt := ⟨_, op_lt, rul_lt⟩
theorem c_le : CmpR X .LtE gLe := ⟨_, op_le, rul_le⟩
theorem c_gt : CmpR X .Gt gGt := ⟨_, op_gt, rul_gt⟩
theorem c_ge : CmpR X .GtE gGe := ⟨_, op_ge, rul_ge⟩
theorem c_eq (hu : X.A.units + 65 < cLine) : CmpR X .Eq gEq := ⟨_, op_eqD (by omega), rul_eq⟩
theorem c_ne (hu : X.A.units + 65 < cLine) : CmpR X .NotEq gNe := ⟨_, op_neD (by omega), rul_ne⟩
theorem c_is : CmpR X .Is gIs := ⟨_, op_is2, rul_is⟩
theorem c_isnot : CmpR X .IsNot gIsNot := ⟨_, op_isnot2, rul_isnot⟩
theorem c_in (hu : X.A.units + 65 < cLine) : CmpR X .In gIn := ⟨_, op_in3 hu, rul_in⟩
theorem c_notin (hu : X.A.units + 65 < cLine) : CmpR X .NotIn gNotIn := ⟨_, op_notin3 hu, rul_notin⟩
theorem fe_cmp {op : CmpOp} {g : D → D → Option D} (r : CmpR X op g) (ha : WE X a fa) (hb : WE X b fb) (hm : behindInMarks op b = false) : FE X (.Compare a [op] [b] pos) (b2 g fa fb) := by
  obtain ⟨r, ho, hr⟩ := r.has
  exact PE.weak (pe_cmpR ho ha hb hm) fun σ H Q h => top_f hr h
theorem be_cmp {op : CmpOp} {g : D → D → Option D} (r : CmpR X op g) (ha : WE X a fa) (hb : WE X b fb) (hm : behindInMarks op b = false) : BE X (.Compare a [op] [b] pos) (tb (b2 g fa fb)) := by
  obtain ⟨r, ho, hr⟩ := r.has
  refine PT.weak (pt_cmpR ho ha hb hm) fun σ H Q ⟨ρ, b, er, hf, q⟩ => ?_
  obtain ⟨d, h1, h2⟩ := Option.bind_eq_some_iff.mp hf
  have := asB_some h2
  subst this
  exact top_f hr ⟨ρ, _, er, h1, fun v H' s r => ⟨b, repF_blv r, q H' s⟩⟩
/-- two comparisons in a chain -/
def b3 (g g' : D → D → Option D) (fa fb fc : Rho → Option D) : Rho → Option D := fun ρ => (fa ρ).bind fun x => (fb ρ).bind fun y => (g x y).bind fun z => (asB z).bind fun k =>
  if k = true then (fc ρ).bind fun w => g' y w else some (.bl false)
theorem tchain_f {r r' : R2} {g g' : D → D → Option D} (hr : RulF X.K g r) (hr' : RulF X.K g' r') {σ : L2.St} {H : Hp} {Q : VK} (h : tF X.K (b3 g g' fa fb fc) σ H Q) : tChain r r' (tW X.K fa) (tW X.K fb) (tW X.K fc) σ H Q := by
  obtain ⟨ρ, d, er, hf, q⟩ := h
  obtain ⟨x, h1, hf1⟩ := Option.bind_eq_some_iff.mp hf
  obtain ⟨y, h2, hf2⟩ := Option.bind_eq_some_iff.mp hf1
  obtain ⟨z, h3, hf3⟩ := Option.bind_eq_some_iff.mp hf2
  obtain ⟨k, h4, hf4⟩ := Option.bind_eq_some_iff.mp hf3
  have := asB_some h4
  subst this
  clear hf hf1 hf2 hf3
  refine ⟨ρ, x, er, h1, fun v H1 s1 r1 => ⟨ρ, y, er.same s1, h2, fun u H2 s2 r2 => hr x y _ v u H2 _ (r1.same s2) r2 h3 fun v' H3 s3 r3 => ⟨k, repF_blv r3, ?_⟩⟩⟩
  cases k with
  | false =>
    simp only [Bool.false_eq_true, if_false] at hf4 ⊢
    cases hf4
    exact q _ _ ((s1.trans s2).trans s3) repF_bl
  | true =>
    simp only [if_true] at hf4 ⊢
    obtain ⟨w', h5, h6⟩ := Option.bind_eq_some_iff.mp hf4
    exact ⟨ρ, w', er.same ((s1.trans s2).trans s3), h5, fun u' H4 s4 r4 => hr' y w' d u u' H4 Q (r2.same (s3.trans s4)) r4 h6 fun v' H' s' r' => q v' H' ((((s1.trans s2).trans s3).trans s4).trans s') r'⟩
theorem fe_chain {op op' : CmpOp} {g g' : D → D → Option D} (r : CmpR X op g) (r' : CmpR X op' g') (ha : WE X a fa) (hb : WE X b fb) (hc : WE X c fc)
    (hm : lastMarks [op, op'] [b, c] = false := by with_unfolding_all rfl) : FE X (.Compare a [op, op'] [b, c] pos) (b3 g g' fa fb fc) := by
  obtain ⟨r, ho, hr⟩ := r.has
  obtain ⟨r', ho', hr'⟩ := r'.has
  exact PE.weak (pe_chain ho ho' ha hb hc hm) fun σ H Q h => tchain_f hr hr' h
theorem be_chain {op op' : CmpOp} {g g' : D → D → Option D} (r : CmpR X op g) (r' : CmpR X op' g') (ha : WE X a fa) (hb : WE X b fb) (hc : WE X c fc)
    (hm : lastMarks [op, op'] [b, c] = false := by with_unfolding_all rfl) : BE X (.Compare a [op, op'] [b, c] pos) (tb (b3 g g' fa fb fc)) := by
  obtain ⟨r, ho, hr⟩ := r.has
  obtain ⟨r', ho', hr'⟩ := r'.has
  refine PT.weak (pt_chain ho ho' ha hb hc hm) fun σ H Q ⟨ρ, b, er, hf, q⟩ => ?_
  obtain ⟨d, h1, h2⟩ := Option.bind_eq_some_iff.mp hf
  have := asB_some h2
  subst this
  exact tchain_f hr hr' ⟨ρ, _, er, h1, fun v H' s r => ⟨b, repF_blv r, q H' s⟩⟩
/-- a bool's value as a test -/
theorem be_val (h : FE X e f) (he : ∀ whole, isTrue e X.env whole = (do let v ← whole; standAt e.pos; holding [v] (truthy v)) := by intro _; rfl) : BE X e (tb f) :=
  PT.weak (pt_val h he) fun σ H Q ⟨ρ, b, er, hf, q⟩ => by
    obtain ⟨d, h1, h2⟩ := Option.bind_eq_some_iff.mp hf
    have := asB_some h2
    subst this
    exact ⟨ρ, _, er, h1, fun v H' s r => ⟨b, repF_blv r, q H' s⟩⟩
def nb (g : Rho → Option Bool) : Rho → Option Bool := fun ρ => (g ρ).map (!·)
theorem be_not (h : BE X a g) : BE X (.UnaryOp .Not a pos) (nb g) := PT.weak (pt_not h) fun σ H Q ⟨ρ, b, er, hf, q⟩ => by
  obtain ⟨c, h1, rfl⟩ := Option.map_eq_some_iff.mp hf
  exact ⟨ρ, c, er, h1, fun H' s => q H' s⟩
theorem fe_not (h : FE X a f) : FE X (.UnaryOp .Not a pos) (vb (nb (tb f))) := PE.weak (pe_not h) fun σ H Q ⟨ρ, d, er, hf, q⟩ => by
  obtain ⟨c, h1, rfl⟩ := Option.map_eq_some_iff.mp hf
  obtain ⟨k, h2, rfl⟩ := Option.map_eq_some_iff.mp h1
  obtain ⟨d, h3, h4⟩ := Option.bind_eq_some_iff.mp h2
  have := asB_some h4
  subst this
  exact ⟨ρ, _, er, h3, fun v H' s r => ⟨k, repF_blv r, q _ H' s repF_bl⟩⟩
/-- and, or as tests -/
def BW (X : Cx) (e : Expr) (f : Rho → Option Bool) : Prop := PW X e (tB X.K f)
theorem be_w (h : BW X e g) : BE X e g := PW.pt h
def fAnd (g1 g2 : Rho → Option Bool) : Rho → Option Bool := fun ρ => (g1 ρ).bind fun c => if c = true then g2 ρ else some false
def fOr (g1 g2 : Rho → Option Bool) : Rho → Option Bool := fun ρ => (g1 ρ).bind fun c => if c = true then some true else g2 ρ
theorem PW.weak {t t' : TT} (h : PW X e t) (k : ∀ σ H Q, t' σ H Q → t σ H Q) : PW X e t' := ⟨fun wh pins s σ H Q I q => h.run wh pins s σ H Q I (k σ H Q q)⟩
theorem bw_and1 (h : BE X a g) : BW X (.BoolOp .And [a] pos) g := pw_and1 h
theorem bw_or1 (h : BE X a g) : BW X (.BoolOp .Or [a] pos) g := pw_or1 h
theorem bw_and (ha : BE X a g1) (hb : BW X (.BoolOp .And (b :: rest) pos) g2) : BW X (.BoolOp .And (a :: b :: rest) pos) (fAnd g1 g2) :=
  PW.weak (pw_and ha hb) fun σ H Q ⟨ρ, k, er, hf, q⟩ => by
    obtain ⟨c, h1, h2⟩ := Option.bind_eq_some_iff.mp hf
    refine ⟨ρ, c, er, h1, fun H1 s1 => ?_⟩
    cases c with
    | true => exact ⟨ρ, k, er.same s1, by simpa using h2, fun H2 s2 => q H2 (s1.trans s2)⟩
    | false => simp at h2; subst h2; exact q H1 s1
theorem bw_or (ha : BE X a g1) (hb : BW X (.BoolOp .Or (b :: rest) pos) g2) : BW X (.BoolOp .Or (a :: b :: rest) pos) (fOr g1 g2) :=
  PW.weak (pw_or ha hb) fun σ H Q ⟨ρ, k, er, hf, q⟩ => by
    obtain ⟨c, h1, h2⟩ := Option.bind_eq_some_iff.mp hf
    refine ⟨ρ, c, er, h1, fun H1 s1 => ?_⟩
    cases c with
    | false => exact ⟨ρ, k, er.same s1, by simpa using h2, fun H2 s2 => q H2 (s1.trans s2)⟩
    | true => simp at h2; subst h2; exact q H1 s1
/-- .. as values -/
def vAnd (f1 f2 : Rho → Option D) : Rho → Option D := fun ρ => (tb f1 ρ).bind fun c => if c = true then f2 ρ else some (.bl false)
def vOr (f1 f2 : Rho → Option D) : Rho → Option D := fun ρ => (tb f1 ρ).bind fun c => if c = true then some (.bl true) else f2 ρ
theorem fe_one {op} (h : FE X a f) : FE X (.BoolOp op [a] pos) f := pe_one h
theorem fe_and (ha : FE X a fa) (hb : FE X (.BoolOp .And (b :: rest) pos) fb) : FE X (.BoolOp .And (a :: b :: rest) pos) (vAnd fa fb) :=
  PE.weak (pe_and ha hb) fun σ H Q ⟨ρ, k, er, hf, q⟩ => by
    obtain ⟨c, h1, h2⟩ := Option.bind_eq_some_iff.mp hf
    obtain ⟨d, h3, h4⟩ := Option.bind_eq_some_iff.mp h1
    have := asB_some h4
    subst this
    refine ⟨ρ, _, er, h3, fun v H1 s1 r1 => ⟨c, repF_blv r1, ?_⟩⟩
    cases c with
    | true => exact ⟨ρ, k, er.same s1, by simpa using h2, fun v H2 s2 r2 => q v H2 (s1.trans s2) r2⟩
    | false => simp at h2; subst h2; exact q _ H1 s1 repF_bl
theorem fe_or (ha : FE X a fa) (hb : FE X (.BoolOp .Or (b :: rest) pos) fb) : FE X (.BoolOp .Or (a :: b :: rest) pos) (vOr fa fb) :=
  PE.weak (pe_or ha hb) fun σ H Q ⟨ρ, k, er, hf, q⟩ => by
    obtain ⟨c, h1, h2⟩ := Option.bind_eq_some_iff.mp hf
    obtain ⟨d, h3, h4⟩ := Option.bind_eq_some_iff.mp h1
    have := asB_some h4
    subst this
    refine ⟨ρ, _, er, h3, fun v H1 s1 r1 => ⟨c, repF_blv r1, ?_⟩⟩
    cases c with
    | false => exact ⟨ρ, k, er.same s1, by simpa using h2, fun v H2 s2 r2 => q v H2 (s1.trans s2) r2⟩
    | true => simp at h2; subst h2; exact q _ H1 s1 repF_bl
def fIf (g : Rho → Option Bool) (fa fb : Rho → Option D) : Rho → Option D := fun ρ => (g ρ).bind fun c => if c = true then fa ρ else fb ρ
theorem fe_if (hc : BE X c g) (ha : FE X a fa) (hb : FE X b fb) : FE X (.IfExp c a b pos) (fIf g fa fb) :=
  PE.weak (pe_ifExp hc ha hb) fun σ H Q ⟨ρ, k, er, hf, q⟩ => by
    obtain ⟨c, h1, h2⟩ := Option.bind_eq_some_iff.mp hf
    refine ⟨ρ, c, er, h1, fun H1 s1 => ?_⟩
    cases c with
    | true => exact ⟨ρ, k, er.same s1, by simpa using h2, fun v H2 s2 r2 => q v H2 (s1.trans s2) r2⟩
    | false => exact ⟨ρ, k, er.same s1, by simpa using h2, fun v H2 s2 r2 => q v H2 (s1.trans s2) r2⟩
end
end PL
/-! ### part PL6 -/
namespace PL
open PySem PySem.Spec PyProof.Rows L2

/-! ### subscripts -/
def gIdx : D → D → Option D
  | .lst xs, .int i => atI xs i
  | .tup xs, .int i => atI xs i
  | .scr ns, .int i => (atI ns i).map .int
  | .str z, .int i => if small z.length then (atI z.cps.toList i).map fun c => .str ⟨#[c]⟩ else none
  | _, _ => none
theorem atI_rep {K : PySem.W.Frag} {H : Hp} {ds : List D} {vs : List V} {i : Int} {d : D} (r : RepL K H ds vs) (h : atI ds i = some d) : ∃ v, atI vs i = some v ∧ RepF K H d v := by
  unfold atI at h ⊢
  obtain ⟨j, h1, h2⟩ := Option.bind_eq_some_iff.mp h
  obtain ⟨v, h3, h4⟩ := r.get h2
  refine ⟨v, ?_, h4⟩
  rw [r.length, h1]
  exact h3
theorem atI_map {α β : Type} {f : α → β} {xs : List α} {i : Int} {x : α} (h : atI xs i = some x) : atI (xs.map f) i = some (f x) := by
  unfold atI at h ⊢
  obtain ⟨j, h1, h2⟩ := Option.bind_eq_some_iff.mp h
  rw [List.length_map, h1]
  simp [h2]
theorem repW_scr {K : PySem.W.Frag} {H : Hp} {ns : List Int} {v : V} (h : RepW K H (.scr ns) v) : ∃ a, v = .ref a ∧ FzL K H a (ns.map V.int) := by
  have h : RepF K H (.scr ns) v := h
  simpa only [RepF] using h
theorem rul_idx {K : PySem.W.Frag} : RulF K gIdx (rIx K) := fun dx dy d x y H Q r1 r2 h q => by
  cases dx <;> cases dy <;> simp only [gIdx, reduceCtorEq] at h
  · split at h
    · rename_i z i hs
      obtain ⟨c, h1, rfl⟩ := Option.map_eq_some_iff.mp h
      exact .inr (.inr ⟨z, i, c, repW_str r1, repW_int r2, small_le hs, h1, q _ H (Same.refl H) repF_str⟩)
    · cases h
  · obtain ⟨a, vs, rfl, ha, ra⟩ := repW_tup r1
    obtain ⟨v, h1, h2⟩ := atI_rep ra h
    exact .inr (.inl ⟨a, vs, _, v, rfl, repW_int r2, ha, h1, q v H (Same.refl H) h2⟩)
  · obtain ⟨a, vs, rfl, ha, ra⟩ := repW_lst r1
    obtain ⟨v, h1, h2⟩ := atI_rep ra h
    exact .inl ⟨a, vs, _, v, rfl, repW_int r2, .inl ha, h1, q v H (Same.refl H) h2⟩
  · obtain ⟨a, rfl, ha⟩ := repW_scr r1
    obtain ⟨n, h1, rfl⟩ := Option.map_eq_some_iff.mp h
    exact .inl ⟨a, _, _, _, rfl, repW_int r2, ha.seq, atI_map h1, q _ H (Same.refl H) repF_int⟩
/-- a dict's item -/
def lookK (k : Key) : List (Key × D) → Option D
  | [] => none
  | (k', d) :: r => if k' = k then some d else lookK k r
def keyD : D → Option Key
  | .int i => some (.inl i)
  | .str x => some (.inr x)
  | _ => none
def gDix : D → D → Option D
  | .dic kvs, y => (keyD y).bind fun k => lookK k kvs
  | _, _ => none
theorem lookK_rep {K : PySem.W.Frag} {H : Hp} {k : Key} : ∀ {kvs : List (Key × D)} {ws : List (Key × V)} {d : D}, RepK K H kvs ws → lookK k kvs = some d → ∃ v, valV ws k = some v ∧ RepF K H d v
  | [], _, _, _, h => by simp [lookK] at h
  | (k', d') :: r, ws, d, hr, h => by
    simp only [RepK] at hr
    obtain ⟨v, s, rfl, h1, h2⟩ := hr
    simp only [lookK] at h
    by_cases e : k' = k
    · rw [if_pos e] at h
      cases h
      exact ⟨v, by simp [valV, e], h1⟩
    · rw [if_neg e] at h
      obtain ⟨u, h3, h4⟩ := lookK_rep h2 h
      exact ⟨u, by rw [← h3]; simp [valV, e], h4⟩
theorem lookK_none {K : PySem.W.Frag} {H : Hp} {k : Key} : ∀ {kvs : List (Key × D)} {ws : List (Key × V)}, RepK K H kvs ws → lookK k kvs = none → valV ws k = none
  | [], ws, hr, _ => by simp only [RepK] at hr; subst hr; simp [valV]
  | (k', d') :: r, ws, hr, h => by
    simp only [RepK] at hr
    obtain ⟨v, s, rfl, h1, h2⟩ := hr
    simp only [lookK] at h
    by_cases e : k' = k
    · rw [if_pos e] at h; cases h
    · rw [if_neg e] at h
      rw [← lookK_none h2 h]; simp [valV, e]
theorem keyD_rep {K : PySem.W.Frag} {H : Hp} {d : D} {k : Key} {v : V} (r : RepW K H d v) (h : keyD d = some k) : v = kV k := by
  cases d <;> simp only [keyD, reduceCtorEq] at h <;> cases h
  · exact repW_int r
  · exact repW_str r

section
variable {X : Cx} {e a b c : Expr} {es rest : List Expr} {f fa fb fc : Rho → Option D} {pos : Pos}
theorem fe_idx (ha : WE X a fa) (hb : WE X b fb) (hs : PlainIx b := by exact fun _ _ => rfl) : FE X (.Subscript a b pos) (b2 gIdx fa fb) :=
  PE.weak (pe_ix ix_seq ha hb hs) fun σ H Q h => top_f rul_idx h
theorem fe_dix (hu : X.A.units + 65 < cLine) (ha : WE X a fa) (hb : WE X b fb) (hs : NoSl b := by exact fun _ _ => rfl) : FE X (.Subscript a b pos) (b2 gDix fa fb) :=
  PE.weak (pe_dget (by omega) ha hb hs) fun σ H Q ⟨ρ, d, er, hf, q⟩ => by
    obtain ⟨x, y, h1, h2, h3⟩ := b2_some hf
    refine ⟨ρ, x, er, h1, fun v H1 s1 r1 => ⟨ρ, y, er.same s1, h2, fun u H2 s2 r2 => ?_⟩⟩
    cases x <;> simp only [gDix, reduceCtorEq] at h3
    obtain ⟨k, h4, h5⟩ := Option.bind_eq_some_iff.mp h3
    have r1' := (r1.same s2)
    have r1'' : RepF X.K H2 (.dic _) v := r1'
    simp only [RepF] at r1''
    obtain ⟨ad, ws, o, rfl, ha, rk⟩ := r1''
    obtain ⟨w', h6, h7⟩ := lookK_rep rk h5
    exact ⟨ad, w', rfl, .inl ⟨ws, k, .inr ⟨o, ha⟩, keyD_rep r2 h4, h6.symm⟩, q _ H2 (s1.trans s2) h7⟩

/-! ### slices -/
def cutD {α : Type} (xs : List α) (lo hi : Option Int) : List α := (xs.drop (HT.sIx xs.length 0 lo)).take (HT.sIx xs.length xs.length hi - HT.sIx xs.length 0 lo)
theorem cut_rep {K : PySem.W.Frag} {H : Hp} {ds : List D} {vs : List V} (r : RepL K H ds vs) (lo hi : Option Int) : RepL K H (cutD ds lo hi) (cutV vs lo hi) := by
  unfold cutD cutV
  rw [r.length]
  exact (r.drop _).take _
theorem cut_whole {ds : List D} {lo hi : Option Int} (h : HT.sIx ds.length 0 lo = 0 ∧ HT.sIx ds.length ds.length hi = ds.length) : cutD ds lo hi = ds := by
  unfold cutD
  rw [h.1, h.2]
  simp
/-- a part of a slice -/
def OE (X : Cx) (e : Option Expr) (f : Rho → Option (Option Int)) : Prop := PO X e (fun σ H Q => ∃ ρ o, ER X.K H σ ρ ∧ f ρ = some o ∧ ∀ H', Same H H' → Q o H')
def oNone : Rho → Option (Option Int) := fun _ => some none
def oSome (f : Rho → Option D) : Rho → Option (Option Int) := fun ρ => (f ρ).bind fun d => match d with
  | .int i => some (some i)
  | _ => none
theorem PO.weak {e : Option Expr} {t t' : TO} (h : PO X e t) (k : ∀ σ H Q, t' σ H Q → t σ H Q) : PO X e t' := ⟨fun pins s σ H Q I q => h.run pins s σ H Q I (k σ H Q q)⟩
theorem oe_none : OE X none oNone := PO.weak po_none fun σ H Q ⟨ρ, o, er, hf, q⟩ => by cases hf; exact q H (Same.refl H)
theorem oe_some (h : WE X e f) : OE X (some e) (oSome f) := PO.weak (po_some h) fun σ H Q ⟨ρ, o, er, hf, q⟩ => by
  obtain ⟨d, h1, h2⟩ := Option.bind_eq_some_iff.mp hf
  refine ⟨ρ, d, er, h1, fun v H1 s1 r1 => ?_⟩
  cases d <;> simp only [reduceCtorEq] at h2
  cases h2
  exact ⟨_, repW_int r1, q H1 s1⟩
def gSl : D → Option Int → Option Int → Option D
  | .lst xs, lo, hi => some (.opn (cutD xs lo hi))
  | .tup xs, lo, hi => some (.tup (cutD xs lo hi))
  | .str z, lo, hi => if small z.length then some (.str (cutS z lo hi)) else none
  | _, _, _ => none
def fSl (fa : Rho → Option D) (fl fh : Rho → Option (Option Int)) : Rho → Option D := fun ρ => (fa ρ).bind fun x => (fl ρ).bind fun l => (fh ρ).bind fun h => gSl x l h
theorem sl_3 : SlR X (fun x lo hi H Q => rSlL X.K x lo hi H Q ∨ (rSlA X.K x lo hi H Q ∨ rSlS x lo hi H Q)) := sl_list.or (sl_tupA.or sl_str)
theorem me_sl {lo hi : Option Expr} {fl fh : Rho → Option (Option Int)} {p2 : Pos} (ha : WE X a fa) (hl : OE X lo fl) (hh : OE X hi fh) : ME X (.Subscript a (.Slice lo hi none p2) pos) (fSl fa fl fh) :=
  PE.weak (pe_slice sl_3 ha hl hh) fun σ H Q ⟨ρ, d, er, hf, q⟩ => by
    obtain ⟨x, h1, hf1⟩ := Option.bind_eq_some_iff.mp hf
    obtain ⟨l, h2, hf2⟩ := Option.bind_eq_some_iff.mp hf1
    obtain ⟨h, h3, h4⟩ := Option.bind_eq_some_iff.mp hf2
    refine ⟨ρ, x, er, h1, fun v H1 s1 r1 => ⟨ρ, l, er.same s1, h2, fun H2 s2 => ⟨ρ, h, er.same (s1.trans s2), h3, fun H3 s3 => ?_⟩⟩⟩
    have s13 := (s1.trans s2).trans s3
    have r3 := r1.same (s2.trans s3)
    cases x <;> simp only [gSl, reduceCtorEq] at h4
    · split at h4 <;> cases h4
      rename_i hs
      exact .inr (.inr ⟨_, repW_str r3, small_le hs, q _ H3 s13 (RepM.of repF_str)⟩)
    · cases h4
      obtain ⟨ad, vs, rfl, hA, ra⟩ := repW_tup r3
      refine .inr (.inl ⟨ad, vs, rfl, hA, fun hw => ?_, fun _ p hp => ?_⟩)
      · rw [ra.length] at hw
        rw [cut_whole hw] at q
        exact q _ H3 s13 (RepM.of (repF_tup hA ra))
      · refine q _ _ (s13.trans (same_new hp)) (RepM.of (repF_tup (.of upd_same) ((cut_rep ra l h).ext (Ext.of (same_new hp)))))
    · cases h4
      obtain ⟨ad, vs, rfl, hA, ra⟩ := repW_lst r3
      refine .inl ⟨ad, vs, rfl, .inl hA, fun p hp => ?_⟩
      exact q _ _ (s13.trans (same_new hp)) ⟨p, _, rfl, s13.free hp, upd_same, (cut_rep ra l h).ext (Ext.of (same_new hp))⟩
theorem fe_sl {lo hi : Option Expr} {fl fh : Rho → Option (Option Int)} {p2 : Pos} (ha : WE X a fa) (hl : OE X lo fl) (hh : OE X hi fh) : FE X (.Subscript a (.Slice lo hi none p2) pos) (fz (fSl fa fl fh)) := fe_of_me (me_sl ha hl hh)

/-! ### built-ins of one argument -/
def u1 (g : D → Option D) (fa : Rho → Option D) : Rho → Option D := fun ρ => (fa ρ).bind g
def RulU (K : PySem.W.Frag) (g : D → Option D) (r : List V → Hp → VK → Prop) : Prop := ∀ (dx d : D) (x : V) (H : Hp) (Q : VK), RepW K H dx x → g dx = some d → (∀ v H', Same H H' → RepM K H H' d v → Q v H') → r [x] H Q
theorem tcb_m {g : D → Option D} {r : List V → Hp → VK → Prop} (hr : RulU X.K g r) {σ : L2.St} {H : Hp} {Q : VK} (h : tM X.K (u1 g fa) σ H Q) : tCB r (tCons (tW X.K fa) tNil) σ H Q := by
  obtain ⟨ρ, d, er, hf, q⟩ := h
  obtain ⟨x, h1, h2⟩ := Option.bind_eq_some_iff.mp hf
  exact ⟨ρ, x, er, h1, fun v H1 s1 r1 => hr x d v H1 Q r1 h2 fun v' H' s' r' => q v' H' (s1.trans s') (r'.back s1)⟩
theorem me_callB {x id : Str} {nm : String} {p : Pos} {g : D → Option D} {r : List V → Hp → VK → Prop} (hc : CallR X (.builtin nm) r) (hr : RulU X.K g r) (hg : Gl X x) (hm : X.mg x = none) (hv : bootBuiltins x = some (.builtin nm)) (ha : WE X a fa)
    (hn : x ≠ "__name__" := by decide) (hdb : (x == ("__debug__" : Str)) = false := by decide)
    (he : starEach [a] X.env = (false, eval a X.env) :: starEach [] X.env := by rfl) (hpl : (backTo pos (starEach [] X.env)).any (·.1) = false := by rfl) : ME X (.Call (.Name x p) [a] [] pos) (u1 g fa) :=
  PE.weak (pe_callB hc hg hm hv (pa_cons ha pa_nil he) hn hdb he hpl) fun σ H Q h => tcb_m hr h
theorem me_callTy {x id : Str} {nm : String} {p : Pos} {g : D → Option D} {r : List V → Hp → VK → Prop} (hc : CallR X (.type nm) r) (hr : RulU X.K g r) (hg : Gl X x) (hm : X.mg x = none) (hv : bootBuiltins x = some (.type nm)) (ha : WE X a fa)
    (hn : x ≠ "__name__" := by decide) (hdb : (x == ("__debug__" : Str)) = false := by decide)
    (he : starEach [a] X.env = (false, eval a X.env) :: starEach [] X.env := by rfl) (hpl : (backTo pos (starEach [] X.env)).any (·.1) = false := by rfl) : ME X (.Call (.Name x p) [a] [] pos) (u1 g fa) :=
  PE.weak (pe_callTy hc hg hm hv (pa_cons ha pa_nil he) hn hdb he hpl) fun σ H Q h => tcb_m hr h
/-- an answer that is never a new list -/
theorem fe_of_plain {g : D → Option D} (hp : ∀ x d, g x = some d → ∀ ds, d ≠ .opn ds) (h : ME X e (u1 g fa)) : FE X e (u1 g fa) := by
  refine (fe_of_me h).eq ?_
  funext ρ
  unfold fz u1
  cases fa ρ with
  | none => rfl
  | some x =>
    show g x = (g x).map frzD
    cases hx : g x with
    | none => rfl
    | some d =>
      have := hp x d hx
      cases d with
      | opn ds => exact absurd rfl (this ds)
      | _ => rfl
def gLen : D → Option D
  | .str z => if small z.length then some (.int z.length) else none
  | .tup xs => some (.int xs.length)
  | .lst xs => some (.int xs.length)
  | .scr xs => some (.int xs.length)
  | _ => none
theorem rul_len {K : PySem.W.Frag} : RulU K gLen (fun xs H Q => ∃ x n, xs = [x] ∧ LenV K x H n ∧ Q (.int n) H) := fun dx d x H Q r h q => by
  cases dx <;> simp only [gLen, reduceCtorEq] at h
  · split at h <;> cases h
    rename_i hs
    have := repW_str r
    subst this
    exact ⟨_, _, rfl, ⟨small_le hs, rfl⟩, q _ H (Same.refl H) (RepM.of repF_int)⟩
  · cases h
    obtain ⟨a, vs, rfl, ha, ra⟩ := repW_tup r
    exact ⟨_, _, rfl, .inr ⟨vs, ha, rfl⟩, q _ H (Same.refl H) (RepM.of (by rw [ra.length]; exact repF_int))⟩
  · cases h
    obtain ⟨a, vs, rfl, ha, ra⟩ := repW_lst r
    exact ⟨_, _, rfl, .inl ⟨vs, .inl ha, rfl⟩, q _ H (Same.refl H) (RepM.of (by rw [ra.length]; exact repF_int))⟩
  · cases h
    obtain ⟨a, rfl, ha⟩ := repW_scr r
    exact ⟨_, _, rfl, .inl ⟨_, ha.seq, rfl⟩, q _ H (Same.refl H) (RepM.of (by rw [List.length_map]; exact repF_int))⟩
theorem fe_len {p : Pos} (hg : Gl X "len") (hm : X.mg "len" = none) (ha : WE X a fa) (he : starEach [a] X.env = (false, eval a X.env) :: starEach [] X.env := by rfl) (hpl : (backTo pos (starEach [] X.env)).any (·.1) = false := by rfl) :
    FE X (.Call (.Name "len" p) [a] [] pos) (u1 gLen fa) :=
  fe_of_plain (fun x d h ds => by cases x <;> simp only [gLen, reduceCtorEq] at h <;> (try split at h) <;> cases h <;> exact fun z => nomatch z)
    (me_callB (id := "len") call_len rul_len hg hm PySem.boot_len ha (by decide) (by decide) he hpl)
noncomputable def gStr : D → Option D
  | .int i => if cdec (i.natAbs.log2 < 1920) = true then some (.str (toString i)) else none
  | _ => none
theorem rul_str {K : PySem.W.Frag} : RulU K gStr (fun xs H Q => ∃ i, xs = [.int i] ∧ i.natAbs.log2 < 1920 ∧ Q (.str (toString i)) H) := fun dx d x H Q r h q => by
  cases dx <;> simp only [gStr, reduceCtorEq] at h
  split at h <;> cases h
  rename_i hs
  have := repW_int r
  subst this
  exact ⟨_, rfl, cdec_iff.mp hs, q _ H (Same.refl H) (RepM.of repF_str)⟩
theorem fe_str1 {p : Pos} (hg : Gl X "str") (hm : X.mg "str" = none) (ha : WE X a fa) (he : starEach [a] X.env = (false, eval a X.env) :: starEach [] X.env := by rfl) (hpl : (backTo pos (starEach [] X.env)).any (·.1) = false := by rfl) :
    FE X (.Call (.Name "str" p) [a] [] pos) (u1 gStr fa) :=
  fe_of_plain (fun x d h ds => by cases x <;> simp only [gStr, reduceCtorEq] at h <;> (try split at h) <;> cases h <;> exact fun z => nomatch z)
    (me_callTy (id := "str") call_str_int rul_str hg hm (by decide +kernel) ha (by decide) (by decide) he hpl)
def gInt : D → Option D
  | .int i => some (.int i)
  | .bl b => some (.int (if b then 1 else 0))
  | _ => none
theorem rul_int {K : PySem.W.Frag} : RulU K gInt (fun xs H Q => (∃ i, xs = [.int i] ∧ Q (.int i) H) ∨ ∃ k, xs = [.bl k] ∧ Q (.int (if k then 1 else 0)) H) := fun dx d x H Q r h q => by
  cases dx <;> simp only [gInt, reduceCtorEq] at h
  · cases h
    have := repW_bl r
    subst this
    exact .inr ⟨_, rfl, q _ H (Same.refl H) (RepM.of repF_int)⟩
  · cases h
    have := repW_int r
    subst this
    exact .inl ⟨_, rfl, q _ H (Same.refl H) (RepM.of repF_int)⟩
theorem fe_int1 {p : Pos} (hg : Gl X "int") (hm : X.mg "int" = none) (ha : WE X a fa) (he : starEach [a] X.env = (false, eval a X.env) :: starEach [] X.env := by rfl) (hpl : (backTo pos (starEach [] X.env)).any (·.1) = false := by rfl) :
    FE X (.Call (.Name "int" p) [a] [] pos) (u1 gInt fa) :=
  fe_of_plain (fun x d h ds => by cases x <;> simp only [gInt, reduceCtorEq] at h <;> cases h <;> exact fun z => nomatch z)
    (me_callTy (id := "int") call_int1 rul_int hg hm (by decide +kernel) ha (by decide) (by decide) he hpl)
/-- list(x), tuple(x) -/
def gList : D → Option D
  | .tup xs => some (.opn xs)
  | .lst xs => some (.opn xs)
  | _ => none
theorem rul_list {K : PySem.W.Frag} : RulU K gList (fun xs H Q => ∃ p ys, xs = [.ref p] ∧ (SqL K H p ys ∨ SqT K H p ys) ∧ ∀ l, H l = none → Q (.ref l) (upd H l (.lst ys))) := fun dx d x H Q r h q => by
  cases dx <;> simp only [gList, reduceCtorEq] at h <;> cases h
  · obtain ⟨a, vs, rfl, ha, ra⟩ := repW_tup r
    exact ⟨a, vs, rfl, .inr ha, fun l hl => q _ _ (same_new hl) ⟨l, vs, rfl, hl, upd_same, ra.ext (Ext.of (same_new hl))⟩⟩
  · obtain ⟨a, vs, rfl, ha, ra⟩ := repW_lst r
    exact ⟨a, vs, rfl, .inl (.inl ha), fun l hl => q _ _ (same_new hl) ⟨l, vs, rfl, hl, upd_same, ra.ext (Ext.of (same_new hl))⟩⟩
theorem me_list {p : Pos} (hg : Gl X "list") (hm : X.mg "list" = none) (ha : WE X a fa) (he : starEach [a] X.env = (false, eval a X.env) :: starEach [] X.env := by rfl) (hpl : (backTo pos (starEach [] X.env)).any (·.1) = false := by rfl) :
    ME X (.Call (.Name "list" p) [a] [] pos) (u1 gList fa) := me_callTy (id := "list") call_list_of rul_list hg hm (by decide +kernel) ha (by decide) (by decide) he hpl
def gTuple : D → Option D
  | .tup xs => some (.tup xs)
  | .lst xs => some (.tup xs)
  | _ => none
theorem rul_tuple {K : PySem.W.Frag} : RulU K gTuple (fun xs H Q => ∃ p ys, xs = [.ref p] ∧ ((SqL K H p ys ∧ ∀ l, H l = none → Q (.ref l) (upd H l (.tup ys))) ∨ (SqT K H p ys ∧ Q (.ref p) H))) := fun dx d x H Q r h q => by
  cases dx <;> simp only [gTuple, reduceCtorEq] at h <;> cases h
  · obtain ⟨a, vs, rfl, ha, ra⟩ := repW_tup r
    exact ⟨a, vs, rfl, .inr ⟨ha, q _ H (Same.refl H) (RepM.of (repF_tup ha ra))⟩⟩
  · obtain ⟨a, vs, rfl, ha, ra⟩ := repW_lst r
    exact ⟨a, vs, rfl, .inl ⟨.inl ha, fun l hl => q _ _ (same_new hl) (RepM.of (repF_tup (.of upd_same) (ra.ext (Ext.of (same_new hl)))))⟩⟩
theorem fe_tuple {p : Pos} (hg : Gl X "tuple") (hm : X.mg "tuple" = none) (ha : WE X a fa) (he : starEach [a] X.env = (false, eval a X.env) :: starEach [] X.env := by rfl) (hpl : (backTo pos (starEach [] X.env)).any (·.1) = false := by rfl) :
    FE X (.Call (.Name "tuple" p) [a] [] pos) (u1 gTuple fa) :=
  fe_of_plain (fun x d h ds => by cases x <;> simp only [gTuple, reduceCtorEq] at h <;> cases h <;> exact fun z => nomatch z)
    (me_callTy (id := "tuple") call_tuple_of rul_tuple hg hm (by decide +kernel) ha (by decide) (by decide) he hpl)
/-- min, max of two ints -/
def gMax : List D → Option D
  | [.int i, .int j] => some (.int (if j > i then j else i))
  | _ => none
def gMin : List D → Option D
  | [.int i, .int j] => some (.int (if j < i then j else i))
  | _ => none
def fArgs (g : List D → Option D) (fs : Rho → Option (List D)) : Rho → Option D := fun ρ => (fs ρ).bind g
theorem repL_two {K : PySem.W.Frag} {H : Hp} {i j : Int} {vs : List V} (r : RepL K H [.int i, .int j] vs) : vs = [.int i, .int j] := by
  simp only [RepL, RepF] at r
  obtain ⟨v, r', rfl, rfl, w, r'', rfl, rfl, rfl⟩ := r
  rfl
theorem fe_max2 {fs : Rho → Option (List D)} {p : Pos} (hcalm : X.calm = true) (hg : Gl X "max") (hm : X.mg "max" = none) (ha : AE X [a, b] fs)
    (he : starEach [a, b] X.env = (false, eval a X.env) :: starEach [b] X.env := by rfl) (hpl : (backTo pos (starEach [b] X.env)).any (·.1) = false := by rfl) : FE X (.Call (.Name "max" p) [a, b] [] pos) (fArgs gMax fs) :=
  PE.weak (pe_callB (call_max2 hcalm) hg hm (by decide +kernel) ha (by decide) (by decide) he hpl) fun σ H Q ⟨ρ, d, er, hf, q⟩ => by
    obtain ⟨ds, h1, h2⟩ := Option.bind_eq_some_iff.mp hf
    refine ⟨ρ, ds, er, h1, fun vs H1 s1 r1 => ?_⟩
    unfold gMax at h2
    split at h2 <;> cases h2
    have := repL_two r1
    subst this
    exact ⟨_, _, rfl, q _ H1 s1 repF_int⟩
theorem fe_min2 {fs : Rho → Option (List D)} {p : Pos} (hcalm : X.calm = true) (hg : Gl X "min") (hm : X.mg "min" = none) (ha : AE X [a, b] fs)
    (he : starEach [a, b] X.env = (false, eval a X.env) :: starEach [b] X.env := by rfl) (hpl : (backTo pos (starEach [b] X.env)).any (·.1) = false := by rfl) : FE X (.Call (.Name "min" p) [a, b] [] pos) (fArgs gMin fs) :=
  PE.weak (pe_callB (call_min2 hcalm) hg hm (by decide +kernel) ha (by decide) (by decide) he hpl) fun σ H Q ⟨ρ, d, er, hf, q⟩ => by
    obtain ⟨ds, h1, h2⟩ := Option.bind_eq_some_iff.mp hf
    refine ⟨ρ, ds, er, h1, fun vs H1 s1 r1 => ?_⟩
    unfold gMin at h2
    split at h2 <;> cases h2
    have := repL_two r1
    subst this
    exact ⟨_, _, rfl, q _ H1 s1 repF_int⟩

/-! ### x.index(y) -/
def idxD (x : D) : List D → Option Nat
  | [] => none
  | y :: ys => if eqD y x then some 0 else (idxD x ys).map (· + 1)
def gIndex : D → D → Option D
  | .lst xs, y => if okD DEEP (.lst xs) && okD DEEP y then (idxD y xs).map fun j => .int (j : Nat) else none
  | _, _ => none
theorem toPyL_get : ∀ {ds : List D} {j : Nat}, (toPyL ds)[j]? = (ds[j]?).map toPy
  | [], j => by simp [toPyL]
  | d :: ds, 0 => by simp [toPyL]
  | d :: ds, j + 1 => by simp [toPyL, toPyL_get (ds := ds) (j := j)]
theorem okL_get : ∀ {n : Nat} {ds : List D} {j : Nat} {d : D}, okL n ds = true → ds[j]? = some d → okD n d = true
  | n, [], j, d, _, h => by simp at h
  | n, x :: ds, 0, d, hk, h => by
    simp only [okL, Bool.and_eq_true] at hk
    simp at h; subst h; exact hk.1
  | n, x :: ds, j + 1, d, hk, h => by
    simp only [okL, Bool.and_eq_true] at hk
    exact okL_get hk.2 (by simpa using h)
theorem idxD_some {x : D} : ∀ {ds : List D} {j : Nat}, idxD x ds = some j → (∃ z, ds[j]? = some z ∧ eqD z x = true) ∧ ∀ (m : Nat) (z : D), m < j → ds[m]? = some z → eqD z x = false
  | [], j, h => by simp [idxD] at h
  | y :: ys, j, h => by
    simp only [idxD] at h
    split at h
    · rename_i hy
      cases h
      exact ⟨⟨y, rfl, hy⟩, fun m z hm => absurd hm (Nat.not_lt_zero _)⟩
    · rename_i hy
      obtain ⟨k, hk, rfl⟩ := Option.map_eq_some_iff.mp h
      obtain ⟨⟨z, h1, h2⟩, h3⟩ := idxD_some hk
      refine ⟨⟨z, by simpa using h1, h2⟩, fun m w hm hw => ?_⟩
      cases m with
      | zero => simp at hw; subst hw; simpa using hy
      | succ m => exact h3 m w (by omega) (by simpa using hw)
theorem fe_index {apos cpos : Pos} (hu : X.A.units + 65 < cLine) (ha : WE X a fa) (hb : FE X b fb) (hbase : attributeBase a "index" X.env (eval a X.env) = eval a X.env := by rfl)
    (hfew : ((backTo cpos (starEach [b] X.env)).all (fun x => !x.1) && (backToKw cpos (keywordEach [] X.env)).all (fun x => x.1.isSome)
      && decide ([b].length + ([] : List Keyword).length + (if ([] : List Keyword).isEmpty then 0 else 1) < 30)) = true := by rfl)
    (hline : (apos.endLine == cpos.line) = true := by rfl) (hs : starEach [b] X.env = (false, eval b X.env) :: starEach [] X.env := by rfl) (hplain : (backTo cpos (starEach [] X.env)).any (·.1) = false := by rfl) :
    FE X (.Call (.Attribute a "index" apos) [b] [] cpos) (b2 gIndex fa fb) :=
  PE.weak (pe_bm PySem.F.plainAttrs_list PySem.F.slot_list_index PySem.F.type_list_index (mt_indexD hu) ha (pa_cons hb pa_nil hs) hbase hfew hline hs hplain) fun σ H Q ⟨ρ, d, er, hf, q⟩ => by
    obtain ⟨x, y, h1, h2, h3⟩ := b2_some hf
    refine ⟨ρ, x, er, h1, fun v H1 s1 r1 => ?_⟩
    cases x <;> simp only [gIndex, reduceCtorEq] at h3
    rename_i xs
    split at h3
    · rename_i hk
      rw [Bool.and_eq_true] at hk
      obtain ⟨j, h4, rfl⟩ := Option.map_eq_some_iff.mp h3
      obtain ⟨ad, vs, rfl, hA, ra⟩ := repW_lst r1
      refine ⟨.inl ⟨rfl, _, .inl hA⟩, ρ, y, er.same s1, h2, fun u H2 s2 r2 => ?_⟩
      obtain ⟨⟨z, h5, h6⟩, h7⟩ := idxD_some h4
      have hl : okL 11 xs = true := by simpa only [okD] using hk.1
      have d1 := dpW_of hk.1 (r1.same s2)
      have sh := ok_shaped (by decide) hk.1
      simp only [toPy] at d1 sh
      refine ⟨ad, u, toPy y, toPyL xs, j, toPy z, rfl, rfl, d1, dp_of _ _ _ hk.2 r2, sh, ok_shaped (by decide) hk.2, ?_, ?_, fun m z' hm hz => ?_, q _ H2 (s1.trans s2) repF_int⟩
      · rw [toPyL_get, h5]; rfl
      · rw [eqv_toPy _ _ _ _ (okL_get hl h5) hk.2]; exact h6
      · rw [toPyL_get] at hz
        obtain ⟨z0, h8, rfl⟩ := Option.map_eq_some_iff.mp hz
        rw [eqv_toPy _ _ _ _ (okL_get hl h8) hk.2]
        exact h7 m z0 hm h8
    · cases h3
end
end PL
/-! ### part PLZ -/
namespace PL
open PySem PySem.Spec PyProof.Rows L2

/-! ### zip of lists and tuples, in any mix (true: a tuple) -/
def sItr (k : Bool) (h : Heap) (it a : Addr) (i : Nat) : Prop := if k = true then h.IsTupleIter it a i else h.IsListIter it a i
def sSrc (K : PySem.W.Frag) (k : Bool) (H : Hp) (a : Addr) (xs : List V) : Prop := if k = true then SqT K H a xs else SqL K H a xs
def sObj (k : Bool) (h : Heap) (a : Addr) (items : Array Value) : Prop := if k = true then h.IsTuple a items else h.IsList a items
def sIt0 (k : Bool) (a : Addr) : Obj := if k = true then { cls := .type "tuple_iterator", data := .fields #[.ref a, .int 0 0] } else { cls := .type "list_iterator", data := .fields #[.ref a, .int 0 0] }
theorem sItr.at_ {k : Bool} {h h' : Heap} {it a : Addr} {i : Nat} (x : sItr k h it a i) (hk : ∀ o, h.get? it = some o → h'.get? it = some o) : sItr k h' it a i := by
  cases k with
  | true => exact Heap.IsTupleIter.at x hk
  | false => exact Heap.IsListIter.at x hk
theorem sItr.obj {k : Bool} {h : Heap} {it a : Addr} {i : Nat} (x : sItr k h it a i) : ∃ o, h.get? it = some o ∧ ∀ v, o.data ≠ .cell v := by
  cases k with
  | true =>
    obtain ⟨o, e, _, d⟩ := (show h.IsTupleIter it a i from x)
    exact ⟨o, e, fun v q => by rw [d] at q; cases q⟩
  | false =>
    obtain ⟨o, e, _, d⟩ := (show h.IsListIter it a i from x)
    exact ⟨o, e, fun v q => by rw [d] at q; cases q⟩
theorem sObj.at_ {k : Bool} {h h' : Heap} {a : Addr} {items : Array Value} (x : sObj k h a items) (hk : ∀ o, h.get? a = some o → h'.get? a = some o) : sObj k h' a items := by
  cases k with
  | true => exact Heap.IsTuple.at x hk
  | false => exact Heap.IsList.at x hk
theorem sObj.lt {k : Bool} {h : Heap} {a : Addr} {items : Array Value} (x : sObj k h a items) : a < h.objs.size := by
  cases k with
  | true =>
    obtain ⟨o, e, _⟩ := (show h.IsTuple a items from x)
    exact Heap.lt_size e
  | false =>
    obtain ⟨o, e, _⟩ := (show h.IsList a items from x)
    exact Heap.lt_size e
theorem sDraws {prog : Program} {w : World} {A : Around} (k : Bool) (hh : A.handled = none) (it a : Addr) (hne : a ≠ it) (items : Array Value) :
    Draws prog w A it [it, a] items.size (fun i v => items[i]? = some v) (fun i h => sItr k h it a i ∧ sObj k h a items) := by
  cases k with
  | true => exact Draws.tuple hh it a hne items
  | false => exact Draws.list hh it a hne items
theorem sBegins (k : Bool) (a : Addr) (items : Array Value) : Begins (.ref a) (sIt0 k a) fun h => sObj k h a items := by
  cases k with
  | true => exact begins_tuple a items
  | false => exact begins_list a items
theorem sItr0 {k : Bool} {h : Heap} {it a : Addr} (e : h.get? it = some (sIt0 k a)) : sItr k h it a 0 := by
  cases k with
  | true => exact ⟨_, e, rfl, rfl⟩
  | false => exact ⟨_, e, rfl, rfl⟩
section
variable {X : Cx} {pins : List (Addr × Obj)} {σ : L2.St} {H : Hp} {s : Shared} {a : Addr} {xs ys : List V}
theorem inv_src {k : Bool} (I : Inv X pins σ H s) (h : sSrc X.K k H a xs) : ∃ its : List Value, Vals xs its ∧ sObj k s.heap a its.toArray := by
  cases k with
  | true =>
    obtain ⟨its, r, p, _⟩ := I.tuple h
    exact ⟨its, r, (show s.heap.IsTuple a its.toArray from p)⟩
  | false =>
    obtain ⟨its, r, p, _⟩ := I.list h
    exact ⟨its, r, p.isList⟩
theorem inv_srcinj {k : Bool} (I : Inv X pins σ H s) (h : sSrc X.K k H a xs) (h' : sSrc X.K k H a ys) : xs = ys := by
  cases k with
  | true => exact I.tuple_inj h h'
  | false => exact I.list_inj h h'
end
/-- the two as they stand at each turn -/
def ItzM (K : PySem.W.Frag) (k1 k2 : Bool) (a b : Addr) : It :=
  ⟨fun i H => ∃ (xs ys : List V) (x y : V), sSrc K k1 H a xs ∧ sSrc K k2 H b ys ∧ xs[i]? = some x ∧ ys[i]? = some y,
    fun i H v H' => ∃ T x y, v = .ref T ∧ H T = none ∧ H' = upd H T (.tup [x, y]) ∧ (∀ xs, sSrc K k1 H a xs → xs[i]? = some x) ∧ ∀ ys, sSrc K k2 H b ys → ys[i]? = some y,
    fun i H => ∃ xs ys : List V, sSrc K k1 H a xs ∧ sSrc K k2 H b ys ∧ i = min xs.length ys.length⟩
theorem turn_zipM {P : Program} {w : World} {K : PySem.W.Frag} {elts : List Expr} {kk : Nat} {tpos : Pos} {k1 k2 : Bool} {a b z TI TO i1 i2 : Addr} (D : ZipApart z TI TO i1 i2 a b) :
    Turn P w K (.Tuple elts kk tpos) (ItzM K k1 k2 a b) [z, TI, TO, i1, i2] z (fun i h => IsZip h z TI TO .none ∧ IsPair h TI (.ref i1) (.ref i2) ∧ (∃ x y, IsPair h TO x y) ∧ sItr k1 h i1 a i ∧ sItr k2 h i2 b i) where
  mem := by simp
  obj := fun i h st c hc => by
    obtain ⟨hz, hTI, ⟨x, y, hTO⟩, h1, h2⟩ := st
    have e' : c = z ∨ c = TI ∨ c = TO ∨ c = i1 ∨ c = i2 := by simpa using hc
    rcases e' with q | q | q | q | q
    · rw [q]; exact ⟨_, hz, fun v q => nomatch q⟩
    · rw [q]; exact ⟨_, hTI, fun v q => nomatch q⟩
    · rw [q]; exact ⟨_, hTO, fun v q => nomatch q⟩
    · rw [q]; exact h1.obj
    · rw [q]; exact h2.obj
  keep := fun i h h' st k => by
    obtain ⟨hz, hTI, ⟨x, y, hTO⟩, h1, h2⟩ := st
    exact ⟨k z (by simp) _ hz, k TI (by simp) _ hTI, ⟨x, y, k TO (by simp) _ hTO⟩, h1.at_ fun o q => k i1 (by simp) o q, h2.at_ fun o q => k i2 (by simp) o q⟩
  item := by
    intro X hP hw hK hc i pins s σ H E I hf st hg
    subst hP hw hK
    obtain ⟨hz, hTI, ⟨x0, y0, hTO⟩, h1, h2⟩ := st
    obtain ⟨xs, ys, x, y, hqx, hqy, hx, hy⟩ := hg
    obtain ⟨its, rv, p⟩ := inv_src I hqx
    obtain ⟨its2, rv2, p2⟩ := inv_src I hqy
    obtain ⟨u, hu, ru⟩ := rv.get hx
    obtain ⟨u2, hu2, ru2⟩ := rv2.get hy
    have hzl : z < s.heap.objs.size := Heap.lt_size hz
    have hi1 : i < its.toArray.size := by
      have := (List.getElem?_eq_some_iff.mp hu).1
      simpa using this
    have hi2 : i < its2.toArray.size := by
      have := (List.getElem?_eq_some_iff.mp hu2).1
      simpa using this
    have S : ZipSep2 z TI TO i1 i2 [i1, a] [i2, b] := by
      refine ⟨D.TIz, D.TOz, D.TITO, D.TIi1, by simp, ?_, ?_, D.TIi2, by simp, ?_, ?_, ?_, ?_⟩
      · simp only [List.mem_cons, List.not_mem_nil, or_false, not_or]; exact ⟨Ne.symm D.i1z, Ne.symm D.l1z⟩
      · simp only [List.mem_cons, List.not_mem_nil, or_false, not_or]; exact ⟨D.TOi1, Ne.symm D.l1TO⟩
      · simp only [List.mem_cons, List.not_mem_nil, or_false, not_or]; exact ⟨Ne.symm D.i2z, Ne.symm D.l2z⟩
      · simp only [List.mem_cons, List.not_mem_nil, or_false, not_or]; exact ⟨D.TOi2, Ne.symm D.l2TO⟩
      · simp only [List.mem_cons, List.not_mem_nil, or_false, not_or]; exact ⟨D.i12, Ne.symm D.l2i1⟩
      · simp only [List.mem_cons, List.not_mem_nil, or_false, not_or]; exact ⟨Ne.symm D.i12, Ne.symm D.l1i2⟩
    have hh : X.A.in1.handled = none := I.ok.hd hc
    have D1 := sDraws (prog := X.prog) (w := X.w) (A := X.A.in1) k1 hh i1 a D.l1i1 its.toArray
    have D2 := sDraws (prog := X.prog) (w := X.w) (A := X.A.in1) k2 hh i2 b D.l2i2 its2.toArray
    have hT : s.TypeIs (.ref z) "zip" := ⟨_, hz, rfl⟩
    unfold pyNext
    refine wpAny_bind (wpAny_attempt (wpAny_callSpecial?_slot (name := Str.ofString "__next__") hT F.slot_zip_next
      (wpAny_call_entry F.slot_zip_next hT F.entry_zip_next
        (zipD2_next_item S D1 D2 hz hTI hTO ⟨h1, p⟩ ⟨h2, p2⟩ hi1 hi2 fun v1 v2 h' tk q1 q2 z' TO' s1' s2' hT hsz hk => wpAny_pure ?_) (F.args_zip_next_1 _))))
    have ev1 : v1 = u := by simpa [hu] using q1.symm
    have ev2 : v2 = u2 := by simpa [hu2] using q2.symm
    subst ev1 ev2
    refine ⟨_, rfl, wpAny_letOwnedTupleGo_zip (s := { s with heap := h', toks := tk }) z' fun h'' z'' sb => ?_⟩
    have hT2 : h''.get? s.heap.objs.size = some { cls := .type "tuple", data := .seq #[v1, v2] } := (sb.2 _ (Nat.ne_of_gt hzl)).trans hT
    have new : ObjOk X.prog X.w (upd H s.heap.objs.size (.tup [x, y])) h'' s.heap.objs.size (.tup [x, y]) :=
      ⟨by show 2 ≤ sizeLine; decide, [v1, v2], .cons ru (.cons ru2 .nil), ⟨_, hT2, rfl, _, rfl⟩⟩
    have I1 : Inv X pins σ (upd H s.heap.objs.size (.tup [x, y])) { s with heap := h'', toks := tk } :=
      I.turnedNew (t' := tk) (ch := [z, TI, TO, i1, i2]) (fun c o hb q => (sb.2 c (fun q' => hb (by simp [q']))).trans (hk c o (fun q' => hb (by simp [q'])) (fun q' => hb (by simp [q'])) (fun q' => hb (by simp [q'])) (fun q' => hb (by simp [q'])) q)) hf (Nat.le_refl _) new
    refine ⟨.ref s.heap.objs.size, _, I1, rfl, ⟨_, x, y, rfl, I.hok.fresh (Nat.le_refl _), rfl, fun l hl => by rw [inv_srcinj I hl hqx]; exact hx, fun l hl => by rw [inv_srcinj I hl hqy]; exact hy⟩, ⟨z'', ?_, ⟨v1, v2, ?_⟩, ?_, ?_⟩, fun c hcm => ?_⟩
    · exact (sb.2 _ D.TIz).trans (hk _ _ D.TIz D.TITO D.TIi1 D.TIi2 hTI)
    · exact (sb.2 _ D.TOz).trans TO'
    · exact s1'.1.at_ fun o q => (sb.2 _ D.i1z).trans q
    · exact s2'.1.at_ fun o q => (sb.2 _ D.i2z).trans q
    · have hlt : c < s.heap.objs.size := by
        have e' : c = z ∨ c = TI ∨ c = TO ∨ c = i1 ∨ c = i2 := by simpa using hcm
        rcases e' with q | q | q | q | q
        · rw [q]; exact hzl
        · rw [q]; exact Heap.lt_size hTI
        · rw [q]; exact Heap.lt_size hTO
        · rw [q]; obtain ⟨_, e1, _⟩ := h1.obj; exact Heap.lt_size e1
        · rw [q]; obtain ⟨_, e1, _⟩ := h2.obj; exact Heap.lt_size e1
      rw [upd_ne (Nat.ne_of_lt hlt)]
      exact (hf c hcm).1
  done := by
    intro X hP hw hK hc i pins s σ H E I hf st hg
    subst hP hw hK
    obtain ⟨hz, hTI, ⟨x0, y0, hTO⟩, h1, h2⟩ := st
    obtain ⟨xs, ys, hqx, hqy, hend⟩ := hg
    obtain ⟨its, rv, p⟩ := inv_src I hqx
    obtain ⟨its2, rv2, p2⟩ := inv_src I hqy
    have l1 := rv.length
    have l2 := rv2.length
    have S : ZipSep2 z TI TO i1 i2 [i1, a] [i2, b] := by
      refine ⟨D.TIz, D.TOz, D.TITO, D.TIi1, by simp, ?_, ?_, D.TIi2, by simp, ?_, ?_, ?_, ?_⟩
      · simp only [List.mem_cons, List.not_mem_nil, or_false, not_or]; exact ⟨Ne.symm D.i1z, Ne.symm D.l1z⟩
      · simp only [List.mem_cons, List.not_mem_nil, or_false, not_or]; exact ⟨D.TOi1, Ne.symm D.l1TO⟩
      · simp only [List.mem_cons, List.not_mem_nil, or_false, not_or]; exact ⟨Ne.symm D.i2z, Ne.symm D.l2z⟩
      · simp only [List.mem_cons, List.not_mem_nil, or_false, not_or]; exact ⟨D.TOi2, Ne.symm D.l2TO⟩
      · simp only [List.mem_cons, List.not_mem_nil, or_false, not_or]; exact ⟨D.i12, Ne.symm D.l2i1⟩
      · simp only [List.mem_cons, List.not_mem_nil, or_false, not_or]; exact ⟨Ne.symm D.i12, Ne.symm D.l1i2⟩
    have hh : X.A.in1.handled = none := I.ok.hd hc
    have D1 := sDraws (prog := X.prog) (w := X.w) (A := X.A.in1) k1 hh i1 a D.l1i1 its.toArray
    have D2 := sDraws (prog := X.prog) (w := X.w) (A := X.A.in1) k2 hh i2 b D.l2i2 its2.toArray
    have hT : s.TypeIs (.ref z) "zip" := ⟨_, hz, rfl⟩
    unfold pyNext
    refine wpAny_bind (wpAny_attempt (wpAny_callSpecial?_slot (name := Str.ofString "__next__") hT F.slot_zip_next
      (wpAny_call_entry F.slot_zip_next hT F.entry_zip_next
        (zipD2_next_end S D1 D2 hz hTI hTO ⟨h1, p⟩ ⟨h2, p2⟩ (by rw [List.size_toArray]; omega) (by rw [List.size_toArray]; omega) (by rw [List.size_toArray, List.size_toArray]; omega) fun h' tk e hk he => ?_) (F.args_zip_next_1 _))))
    obtain ⟨o, ho, hcl⟩ := he
    refine wpAny_bind (wpAny_isInstance (T := "StopIteration") (b := true) ⟨o, ho, hcl⟩ isSubtype_stop ?_)
    refine wpAny_pure ⟨rfl, I.turnedL (t' := tk) (ch := [z, TI, TO, i1, i2]) (fun c o hb q =>
      hk c o (fun q' => hb (by simp [q'])) (fun q' => hb (by simp [q'])) (fun q' => hb (by simp [q'])) (fun q' => hb (by simp [q'])) q) hf⟩
  self := fun A i s Q E st h => wpAny_pyIter_zip st.1 h
def iZipM (K : PySem.W.Frag) (ta : TA) : TI := fun σ H R => ta σ H fun vs H1 => ∃ a b xs ys k1 k2, vs = [.ref a, .ref b] ∧ sSrc K k1 H1 a xs ∧ sSrc K k2 H1 b ys ∧ R (ItzM K k1 k2 a b) H1
theorem pi_zipM {X : Cx} {e e2 : Expr} {ta : TA} {p pos tpos : Pos} {elts : List Expr} {kk : Nat} (hg : Gl X "zip") (hm : X.mg "zip" = none) (ha : PA X [e, e2] ta)
    (hs : starEach [e, e2] X.env = (false, eval e X.env) :: starEach [e2] X.env := by rfl) (hpl : (backTo pos (starEach [e2] X.env)).any (·.1) = false := by rfl) :
    PI X (.Tuple elts kk tpos) (.Call (.Name "zip" p) [e, e2] [] pos) (iZipM X.K ta) := by
  refine ⟨fun pins s σ H R I h => ?_⟩
  refine Call_ (ld_blt I hg hm PyProof.Rows.boot_zip (PyProof.Rows.callWith_type1 (thn (ha.run pos pins s σ H _ I h) fun us s1 ⟨vs, H1, I1, r1, q1⟩ => ?_) hs hpl))
  obtain ⟨a, b, xs, ys, k1, k2, ex, hqx, hqy, q⟩ := q1
  subst ex
  cases r1 with
  | cons r rr =>
    cases rr with
    | cons r' rr =>
      cases rr
      cases r
      cases r'
      obtain ⟨its, rv, p1⟩ := inv_src I1 hqx
      obtain ⟨its2, rv2, p2⟩ := inv_src I1 hqy
      refine zip_begins2 (sBegins k1 a its.toArray) (sBegins k2 b its2.toArray) p1 p2 fun h' hz hTI hTO h1 h2 hsz hk => wpAny_pyIter_zip hz ?_
      have I2 : Inv X pins σ H1 { s1 with heap := h' } := I1.kept (t' := s1.toks) hk
      refine ⟨s1.heap.objs.size + 4, [s1.heap.objs.size + 4, s1.heap.objs.size + 2, s1.heap.objs.size + 3, s1.heap.objs.size, s1.heap.objs.size + 1], _, _, H1, rfl, I2, turn_zipM (PySem.W.ktu_apart s1.heap.objs.size a b p1.lt p2.lt), ⟨hz, hTI, ⟨_, _, hTO⟩, sItr0 h1, sItr0 h2⟩, fun c hcm => ?_, q⟩
      have e' : c = s1.heap.objs.size + 4 ∨ c = s1.heap.objs.size + 2 ∨ c = s1.heap.objs.size + 3 ∨ c = s1.heap.objs.size ∨ c = s1.heap.objs.size + 1 := by simpa using hcm
      have hle : s1.heap.objs.size ≤ c := by
        rcases e' with z | z | z | z | z
        · rw [z]; exact Nat.le_add_right _ _
        · rw [z]; exact Nat.le_add_right _ _
        · rw [z]; exact Nat.le_add_right _ _
        · rw [z]; exact Nat.le_refl _
        · rw [z]; exact Nat.le_add_right _ _
      exact I1.fpOk hle (I1.hok.fresh hle)
end PL
/-! ### part PL7 -/
namespace PL
open PySem PySem.Spec PyProof.Rows L2

/-! ### what is walked -/
/-- J hands out l; b: whatever else is done, as long as the lists at S stand -/
structure WkD (K : PySem.W.Frag) (J : It) (H0 : Hp) (S : Addr → Prop) (l : List D) : Prop where
  go : ∀ i H, i < l.length → Ext H0 H → (∀ a, S a → H a = H0 a) → J.go i H
  stop : ∀ H, Ext H0 H → (∀ a, S a → H a = H0 a) → J.stop l.length H
  yld : ∀ i H x H' d, l[i]? = some d → Ext H0 H → (∀ a, S a → H a = H0 a) → J.yld i H x H' → Same H H' ∧ RepF K H' d x
def iI (K : PySem.W.Frag) (b : Bool) (f : Rho → Option (List D)) : TI := fun σ H R => ∃ ρ l, ER K H σ ρ ∧ f ρ = some l ∧ ∀ J H' S, Same H H' → WkD K J H' S l → (∀ a, S a → ∃ xs, H' a = some (.lst xs)) → (b = true → ∀ a, ¬ S a) → R J H'
/-- b: by a body that may change lists of its own -/
def IE (X : Cx) (tg it : Expr) (b : Bool) (f : Rho → Option (List D)) : Prop := PI X tg it (iI X.K b f)
theorem PI.weak {X : Cx} {tg it : Expr} {w w' : TI} (h : PI X tg it w) (k : ∀ σ H R, w' σ H R → w σ H R) : PI X tg it w' := ⟨fun pins s σ H R I q => h.run pins s σ H R I (k σ H R q)⟩
theorem pi_or {X : Cx} {tg it : Expr} {w w' : TI} (h : PI X tg it w) (h' : PI X tg it w') : PI X tg it (fun σ H R => w σ H R ∨ w' σ H R) :=
  ⟨fun pins s σ H R I q => q.elim (fun q => h.run pins s σ H R I q) fun q => h'.run pins s σ H R I q⟩
def chars (z : Str) : List D := z.cps.toList.map fun c => .str ⟨#[c]⟩
def asSeq : D → Option (List D)
  | .lst xs => some xs
  | .tup xs => some xs
  | .str z => some (chars z)
  | _ => none
def fSeq (f : Rho → Option D) : Rho → Option (List D) := fun ρ => (f ρ).bind asSeq

theorem wk_tup {K : PySem.W.Frag} {H : Hp} {a : Addr} {vs : List V} {ds : List D} (h : SqT K H a vs) (r : RepL K H ds vs) : WkD K (Itt K a) H (fun _ => False) ds where
  go := fun i H1 hi e _ => by
    have hi' : i < vs.length := by rw [r.length]; exact hi
    exact ⟨vs, vs[i], e.sqT h, List.getElem?_eq_getElem hi'⟩
  stop := fun H1 e _ => ⟨vs, e.sqT h, by rw [r.length]; exact Nat.le_refl _⟩
  yld := fun i H1 x H' d hd e _ y => by
    obtain ⟨rfl, y⟩ := y
    have q := y vs (e.sqT h)
    obtain ⟨v, h1, h2⟩ := r.get hd
    rw [q] at h1; cases h1
    exact ⟨Same.refl _, h2.ext e⟩
theorem wk_lst {K : PySem.W.Frag} {H : Hp} {a : Addr} {vs : List V} {ds : List D} (h : Rd H a (.lst vs)) (r : RepL K H ds vs) : WkD K (Itl K a) H (fun b => b = a ∧ H a = some (.lst vs)) ds := by
  have keep : ∀ H1, Ext H H1 → (∀ b, b = a ∧ H a = some (.lst vs) → H1 b = H b) → SqL K H1 a vs := fun H1 e k => by
    rcases h with h | ⟨o, h⟩
    · exact .inl (.inl ((k a ⟨rfl, h⟩).trans h))
    · exact .inl (.inr ⟨o, e.frz _ _ _ h⟩)
  refine ⟨fun i H1 hi e k => ?_, fun H1 e k => ⟨vs, keep H1 e k, by rw [r.length]; exact Nat.le_refl _⟩, fun i H1 x H' d hd e k y => ?_⟩
  · have hi' : i < vs.length := by rw [r.length]; exact hi
    exact ⟨vs, vs[i], keep H1 e k, List.getElem?_eq_getElem hi'⟩
  · obtain ⟨rfl, y⟩ := y
    have q := y vs (keep _ e k)
    obtain ⟨v, h1, h2⟩ := r.get hd
    rw [q] at h1; cases h1
    exact ⟨Same.refl _, h2.ext e⟩
theorem wk_str {K : PySem.W.Frag} {H : Hp} {z : Str} : WkD K (Its z) H (fun _ => False) (chars z) where
  go := fun i H1 hi _ _ => by
    have : i < z.cps.size := by simpa [chars] using hi
    exact this
  stop := fun H1 _ _ => by
    show z.cps.size ≤ (chars z).length
    simp [chars]
  yld := fun i H1 x H' d hd e _ y => by
    obtain ⟨rfl, c, hc, rfl⟩ := y
    refine ⟨Same.refl _, ?_⟩
    have hd' : (z.cps.toList.map fun c => D.str ⟨#[c]⟩)[i]? = some d := hd
    rw [List.getElem?_map] at hd'
    have : z.cps.toList[i]? = some c := by simpa using hc
    rw [this] at hd'
    cases hd'
    exact repF_str
theorem wk_range {K : PySem.W.Frag} {H : Hp} {lo : Int} {n : Nat} : WkD K (Itr lo n) H (fun _ => False) ((List.range n).map fun i => .int (lo + (i : Nat))) where
  go := fun i H1 hi _ _ => by
    have : i < n := by simpa using hi
    exact this
  stop := fun H1 _ _ => by
    show n ≤ ((List.range n).map fun i => D.int (lo + (i : Nat))).length
    simp
  yld := fun i H1 x H' d hd e _ y => by
    obtain ⟨rfl, rfl⟩ := y
    refine ⟨Same.refl _, ?_⟩
    rw [List.getElem?_map] at hd
    obtain ⟨j, hj, rfl⟩ := Option.map_eq_some_iff.mp hd
    have := List.getElem?_eq_some_iff.mp hj
    obtain ⟨h1, h2⟩ := this
    simp at h2
    subst h2
    exact repF_int
theorem wk_rangeC {K : PySem.W.Frag} {H : Hp} {lo c : Int} {n : Nat} : WkD K (Itc lo c n) H (fun _ => False) ((List.range n).map fun i => .int (lo + (i : Nat) * c)) where
  go := fun i H1 hi _ _ => by
    have : i < n := by simpa using hi
    exact this
  stop := fun H1 _ _ => by
    show n ≤ ((List.range n).map fun i => D.int (lo + (i : Nat) * c)).length
    simp
  yld := fun i H1 x H' d hd e _ y => by
    obtain ⟨rfl, rfl⟩ := y
    refine ⟨Same.refl _, ?_⟩
    rw [List.getElem?_map] at hd
    obtain ⟨j, hj, rfl⟩ := Option.map_eq_some_iff.mp hd
    have := List.getElem?_eq_some_iff.mp hj
    obtain ⟨h1, h2⟩ := this
    simp at h2
    subst h2
    exact repF_int

section
variable {X : Cx} {tg e a b c : Expr} {f fa fb : Rho → Option D} {pos : Pos}
/-- over a frozen list, a tuple, a text -/
theorem ie_seq (h : FE X e f) : IE X tg e true (fSeq f) :=
  PI.weak (pi_or (pi_list h) (pi_or (pi_tup h) (pi_str h))) fun σ H R ⟨ρ, l, er, hf, q⟩ => by
    obtain ⟨d, h1, h2⟩ := Option.bind_eq_some_iff.mp hf
    cases d <;> simp only [asSeq, reduceCtorEq] at h2 <;> cases h2
    · exact .inr (.inr ⟨ρ, _, er, h1, fun v H' s r => ⟨_, repF_blv' r, q _ H' _ s wk_str (fun a z => z.elim) (fun _ a z => z)⟩⟩)
    · refine .inr (.inl ⟨ρ, _, er, h1, fun v H' s r => ?_⟩)
      obtain ⟨a, vs, rfl, ha, ra⟩ := repW_tup (RepW.of r)
      exact ⟨a, rfl, ⟨vs, ha⟩, q _ H' _ s (wk_tup ha ra) (fun a z => z.elim) (fun _ a z => z)⟩
    · refine .inl ⟨ρ, _, er, h1, fun v H' s r => ?_⟩
      simp only [RepF] at r
      obtain ⟨a, vs, o, rfl, ha, ra⟩ := r
      refine ⟨a, rfl, ⟨vs, .inl (.inr ⟨o, ha⟩)⟩, q _ H' _ s (wk_lst (.inr ⟨o, ha⟩) ra) (fun b z => ?_) (fun _ b z => ?_)⟩
      · obtain ⟨_, z⟩ := z; rw [ha] at z; cases z
      · obtain ⟨_, z⟩ := z; rw [ha] at z; cases z
where
  repF_blv' {K : PySem.W.Frag} {H : Hp} {z : Str} {v : V} (h : RepF K H (.str z) v) : v = .str z := by simpa only [RepF] using h
/-- over a list of the def's own, in a comprehension -/
theorem ie_seqW (h : WE X e f) : IE X tg e false (fSeq f) :=
  PI.weak (pi_or (pi_list h) (pi_or (pi_tup h) (pi_str h))) fun σ H R ⟨ρ, l, er, hf, q⟩ => by
    obtain ⟨d, h1, h2⟩ := Option.bind_eq_some_iff.mp hf
    cases d <;> simp only [asSeq, reduceCtorEq] at h2 <;> cases h2
    · exact .inr (.inr ⟨ρ, _, er, h1, fun v H' s r => ⟨_, repW_str r, q _ H' _ s wk_str (fun a z => z.elim) (fun _ a z => z)⟩⟩)
    · refine .inr (.inl ⟨ρ, _, er, h1, fun v H' s r => ?_⟩)
      obtain ⟨a, vs, rfl, ha, ra⟩ := repW_tup r
      exact ⟨a, rfl, ⟨vs, ha⟩, q _ H' _ s (wk_tup ha ra) (fun a z => z.elim) (fun _ a z => z)⟩
    · refine .inl ⟨ρ, _, er, h1, fun v H' s r => ?_⟩
      obtain ⟨a, vs, rfl, ha, ra⟩ := repW_lst r
      exact ⟨a, rfl, ⟨vs, .inl ha⟩, q _ H' _ s (wk_lst ha ra) (fun b z => by rw [z.1]; exact ⟨vs, z.2⟩) (fun z => nomatch z)⟩
theorem ie_weak (h : IE X tg e true f') : IE X tg e false f' := PI.weak h fun σ H R ⟨ρ, l, er, hf, q⟩ => ⟨ρ, l, er, hf, fun J H' S s w k1 k2 => q J H' S s w k1 (fun z => nomatch z)⟩
noncomputable def inR (i : Int) : Bool := cdec (-(2 ^ 62) ≤ i ∧ i < 2 ^ 62)
theorem inR_ok {i : Int} (h : inR i = true) : -(2 ^ 62) ≤ i ∧ i < 2 ^ 62 := by
  exact cdec_iff.mp h
noncomputable def rng1 : List D → Option (List D)
  | [.int j] => if inR j then some ((List.range j.toNat).map fun i => .int (0 + (i : Nat))) else none
  | _ => none
noncomputable def rng2 : List D → Option (List D)
  | [.int i, .int j] => if inR i && inR j then some ((List.range (j - i).toNat).map fun k => .int (i + (k : Nat))) else none
  | _ => none
def fRng (g : List D → Option (List D)) (fs : Rho → Option (List D)) : Rho → Option (List D) := fun ρ => (fs ρ).bind g
theorem ie_range1 {fs : Rho → Option (List D)} {p : Pos} (hg : Gl X "range") (hm : X.mg "range" = none) (ha : AE X [a] fs) (hs : starEach [a] X.env = [(false, eval a X.env)] := by rfl) :
    IE X tg (.Call (.Name "range" p) [a] [] pos) true (fRng rng1 fs) :=
  PI.weak (pi_range1 hg hm ha hs) fun σ H R ⟨ρ, l, er, hf, q⟩ => by
    obtain ⟨ds, h1, h2⟩ := Option.bind_eq_some_iff.mp hf
    refine ⟨ρ, ds, er, h1, fun vs H1 s1 r1 => ?_⟩
    unfold rng1 at h2
    split at h2
    · rename_i j
      split at h2 <;> cases h2
      rename_i hj
      obtain ⟨b1, b2⟩ := inR_ok hj
      simp only [RepL, RepF] at r1
      obtain ⟨v, r', rfl, rfl, rfl⟩ := r1
      exact ⟨j, rfl, b1, b2, q _ H1 _ s1 wk_range (fun a z => z.elim) (fun _ a z => z)⟩
    · cases h2
theorem ie_range2 {fs : Rho → Option (List D)} {p : Pos} (hg : Gl X "range") (hm : X.mg "range" = none) (ha : AE X [a, b] fs) (hs : starEach [a, b] X.env = [(false, eval a X.env), (false, eval b X.env)] := by rfl) (hs2 : starEach [b] X.env = [(false, eval b X.env)] := by rfl) :
    IE X tg (.Call (.Name "range" p) [a, b] [] pos) true (fRng rng2 fs) :=
  PI.weak (pi_range2 hg hm ha hs hs2) fun σ H R ⟨ρ, l, er, hf, q⟩ => by
    obtain ⟨ds, h1, h2⟩ := Option.bind_eq_some_iff.mp hf
    refine ⟨ρ, ds, er, h1, fun vs H1 s1 r1 => ?_⟩
    unfold rng2 at h2
    split at h2
    · rename_i i j
      split at h2 <;> cases h2
      rename_i hj
      rw [Bool.and_eq_true] at hj
      obtain ⟨b1, b2⟩ := inR_ok hj.1
      obtain ⟨b3, b4⟩ := inR_ok hj.2
      have := repL_two r1
      subst this
      exact ⟨i, j, rfl, ⟨b1, b2, b3, b4⟩, q _ H1 _ s1 wk_range (fun a z => z.elim) (fun _ a z => z)⟩
    · cases h2

/-! ### zip -/
def zipD : List D → List D → List D
  | x :: xs, y :: ys => .tup [x, y] :: zipD xs ys
  | _, _ => []
theorem zipD_len : ∀ (xs ys : List D), (zipD xs ys).length = min xs.length ys.length
  | [], ys => by simp [zipD]
  | _ :: _, [] => by simp [zipD]
  | x :: xs, y :: ys => by simp [zipD, zipD_len xs ys] <;> omega
theorem zipD_get : ∀ (xs ys : List D) (i : Nat) (d : D), (zipD xs ys)[i]? = some d → ∃ x y, xs[i]? = some x ∧ ys[i]? = some y ∧ d = .tup [x, y]
  | [], ys, i, d, h => by simp [zipD] at h
  | _ :: _, [], i, d, h => by simp [zipD] at h
  | x :: xs, y :: ys, 0, d, h => by simp [zipD] at h; exact ⟨x, y, rfl, rfl, h.symm⟩
  | x :: xs, y :: ys, i + 1, d, h => by
    obtain ⟨u, v, h1, h2, h3⟩ := zipD_get xs ys i d (by simpa [zipD] using h)
    exact ⟨u, v, by simpa using h1, by simpa using h2, h3⟩
theorem wk_zip {K : PySem.W.Frag} {H : Hp} {k1 k2 : Bool} {a b : Addr} {vs us : List V} {ds es : List D} (S : Addr → Prop) (h1 : ∀ H1, Ext H H1 → (∀ b, S b → H1 b = H b) → sSrc K k1 H1 a vs) (h2 : ∀ H1, Ext H H1 → (∀ b, S b → H1 b = H b) → sSrc K k2 H1 b us)
    (r1 : RepL K H ds vs) (r2 : RepL K H es us) : WkD K (ItzM K k1 k2 a b) H S (zipD ds es) where
  go := fun i H1 hi e k => by
    rw [zipD_len] at hi
    have e1 : i < vs.length := by rw [r1.length]; omega
    have e2 : i < us.length := by rw [r2.length]; omega
    exact ⟨vs, us, vs[i], us[i], h1 H1 e k, h2 H1 e k, List.getElem?_eq_getElem e1, List.getElem?_eq_getElem e2⟩
  stop := fun H1 e k => ⟨vs, us, h1 H1 e k, h2 H1 e k, by rw [zipD_len, r1.length, r2.length]⟩
  yld := fun i H1 x H' d hd e k y => by
    obtain ⟨T, x1, y1, rfl, nT, rfl, f1, f2⟩ := y
    obtain ⟨u, v, g1, g2, rfl⟩ := zipD_get _ _ _ _ hd
    obtain ⟨w1, p1, p2⟩ := r1.get g1
    obtain ⟨w2, p3, p4⟩ := r2.get g2
    have q1 := f1 vs (h1 H1 e k)
    have q2 := f2 us (h2 H1 e k)
    rw [p1] at q1; cases q1
    rw [p3] at q2; cases q2
    have s := same_new (o := .tup [x1, y1]) nT
    exact ⟨s, repF_tup (.of upd_same) (RepL.cons ((p2.ext e).ext (Ext.of s)) (RepL.one ((p4.ext e).ext (Ext.of s))))⟩
/-- how a value to be zipped stands -/
theorem src_of {K : PySem.W.Frag} {H : Hp} {d : D} {v : V} {ds : List D} (r : RepF K H d v) (h : asSeq d = some ds) (hn : ∀ z, d ≠ .str z) : ∃ (k : Bool) (a : Addr) (vs : List V), v = .ref a ∧ RepL K H ds vs ∧ ∀ H1, Ext H H1 → sSrc K k H1 a vs := by
  cases d <;> simp only [asSeq, reduceCtorEq] at h <;> cases h
  · exact absurd rfl (hn _)
  · obtain ⟨a, vs, rfl, ha, ra⟩ := repW_tup (RepW.of r)
    exact ⟨true, a, vs, rfl, ra, fun H1 e => e.sqT ha⟩
  · simp only [RepF] at r
    obtain ⟨a, vs, o, rfl, ha, ra⟩ := r
    exact ⟨false, a, vs, rfl, ra, fun H1 e => .inl (.inr ⟨o, e.frz _ _ _ ha⟩)⟩
def noStr : D → Bool
  | .str _ => false
  | _ => true
def zip2 (x y : D) : Option (List D) := if noStr x && noStr y then (asSeq x).bind fun xs => (asSeq y).map fun ys => zipD xs ys else none
def fZip (fa fb : Rho → Option D) : Rho → Option (List D) := fun ρ => (fa ρ).bind fun x => (fb ρ).bind fun y => zip2 x y
theorem noStr_ok {d : D} (h : noStr d = true) : ∀ z, d ≠ .str z := fun z e => by subst e; simp [noStr] at h
theorem ie_zip {p pos tpos : Pos} {elts : List Expr} {kk : Nat} (hg : Gl X "zip") (hm : X.mg "zip" = none) (ha : FE X a fa) (hb : FE X b fb) (hs : starEach [a, b] X.env = (false, eval a X.env) :: starEach [b] X.env := by rfl)
    (hs2 : starEach [b] X.env = (false, eval b X.env) :: starEach [] X.env := by rfl) (hpl : (backTo pos (starEach [b] X.env)).any (·.1) = false := by rfl) : IE X (.Tuple elts kk tpos) (.Call (.Name "zip" p) [a, b] [] pos) true (fZip fa fb) :=
  PI.weak (pi_zipM hg hm (pa_cons ha (pa_cons hb pa_nil hs2) hs) hs hpl) fun σ H R ⟨ρ, l, er, hf, q⟩ => by
    obtain ⟨x, h1, hf1⟩ := Option.bind_eq_some_iff.mp hf
    obtain ⟨y, h2, h3⟩ := Option.bind_eq_some_iff.mp hf1
    refine ⟨ρ, x, er, h1, fun v H1 s1 r1 => ⟨ρ, y, er.same s1, h2, fun u H2 s2 r2 => ?_⟩⟩
    unfold zip2 at h3
    split at h3
    · rename_i hn
      rw [Bool.and_eq_true] at hn
      obtain ⟨xs, h4, h5⟩ := Option.bind_eq_some_iff.mp h3
      obtain ⟨ys, h6, rfl⟩ := Option.map_eq_some_iff.mp h5
      obtain ⟨k1, p1, vs, rfl, rv, w1⟩ := src_of (r1.ext (Ext.of s2)) h4 (noStr_ok hn.1)
      obtain ⟨k2, p2, us, rfl, ru, w2⟩ := src_of r2 h6 (noStr_ok hn.2)
      exact ⟨p1, p2, vs, us, k1, k2, rfl, w1 H2 (Ext.refl _), w2 H2 (Ext.refl _), q _ H2 (fun _ => False) (s1.trans s2) (wk_zip _ (fun H1 e _ => w1 H1 e) (fun H1 e _ => w2 H1 e) rv ru) (fun a z => z.elim) (fun _ a z => z)⟩
    · cases h3
end
end PL
/-! ### part PL8 -/
namespace PL
open PySem PySem.Spec PyProof.Rows L2

/-! ### targets -/
/-- slots set one after another, to frozen values -/
inductive Sets (K : PySem.W.Frag) (H : Hp) (is : List Nat) : L2.St → Rho → L2.St → Rho → Prop
  | refl {σ ρ} : Sets K H is σ ρ σ ρ
  | step {σ ρ σ' ρ' : _} {i : Nat} {d : D} {v : V} : i ∈ is → Sets K H is σ ρ σ' ρ' → RepF K H d v → Sets K H is σ ρ (σ'.set i (some v)) (ρ'.set i (some d))
theorem Sets.trans {K : PySem.W.Frag} {H : Hp} {is : List Nat} {σ σ1 σ2 : L2.St} {ρ ρ1 ρ2 : Rho} (a : Sets K H is σ ρ σ1 ρ1) (b : Sets K H is σ1 ρ1 σ2 ρ2) : Sets K H is σ ρ σ2 ρ2 := by
  induction b with
  | refl => exact a
  | step hi _ r ih => exact .step hi ih r
theorem Sets.mono {K : PySem.W.Frag} {H : Hp} {is js : List Nat} {σ σ1 : L2.St} {ρ ρ1 : Rho} (h : ∀ i ∈ is, i ∈ js) (a : Sets K H is σ ρ σ1 ρ1) : Sets K H js σ ρ σ1 ρ1 := by
  induction a with
  | refl => exact .refl
  | step hi _ r ih => exact .step (h _ hi) ih r
theorem Sets.ext {K : PySem.W.Frag} {H H' : Hp} {is : List Nat} {σ σ1 : L2.St} {ρ ρ1 : Rho} (e : Ext H H') (a : Sets K H is σ ρ σ1 ρ1) : Sets K H' is σ ρ σ1 ρ1 := by
  induction a with
  | refl => exact .refl
  | step hi _ r ih => exact .step hi ih (r.ext e)
theorem Sets.er {K : PySem.W.Frag} {H : Hp} {is : List Nat} {σ σ1 : L2.St} {ρ ρ1 : Rho} (a : Sets K H is σ ρ σ1 ρ1) (h : ER K H σ ρ) : ER K H σ1 ρ1 := by
  induction a with
  | refl => exact h
  | step _ _ r ih => exact ih.set (.of r)
theorem Sets.ers {K : PySem.W.Frag} {H0 H : Hp} {is : List Nat} {σ σ1 : L2.St} {ρ ρ1 : Rho} (a : Sets K H is σ ρ σ1 ρ1) (h : ERS K H0 H σ ρ) : ERS K H0 H σ1 ρ1 := by
  induction a with
  | refl => exact h
  | step _ _ r ih => exact ih.set (Same.refl _) (.of r)
def wipeR (ρ : Rho) : List Nat → Rho
  | [] => ρ
  | v :: vs => (wipeR ρ vs).set v none
theorem er_wipe {K : PySem.W.Frag} {H : Hp} {σ : L2.St} {ρ : Rho} (h : ER K H σ ρ) : ∀ vs : List Nat, ER K H (wipe σ vs) (wipeR ρ vs)
  | [] => h
  | v :: vs => by
    have ih := er_wipe h vs
    unfold wipe wipeR
    refine ⟨by simp [ih.len], fun i d q => ?_⟩
    by_cases hi : v = i
    · subst hi
      have hl : v < (wipeR ρ vs).length := by simpa using (List.getElem?_eq_some_iff.mp q).1
      rw [List.getElem?_set_self hl] at q; cases q
    · rw [List.getElem?_set_ne hi] at q ⊢
      exact ih.slot i d q
theorem wipe_set {i : Nat} {x : Option V} {σ : L2.St} : ∀ {vs : List Nat}, i ∈ vs → wipe (σ.set i x) vs = wipe σ vs
  | v :: vs, h => by
    unfold wipe
    by_cases hv : i ∈ vs
    · rw [wipe_set hv]
    · have hi : i = v := by
        rcases List.mem_cons.mp h with e | e
        · exact e
        · exact absurd e hv
      subst hi
      have push : ∀ (ws : List Nat) (τ : L2.St), i ∉ ws → wipe (τ.set i x) ws = (wipe τ ws).set i x := by
        intro ws
        induction ws with
        | nil => intro τ _; rfl
        | cons w ws ih =>
          intro τ hw
          simp only [List.mem_cons, not_or] at hw
          unfold wipe
          rw [ih τ hw.2, List.set_comm _ _ hw.1]
      rw [push vs σ hv, List.set_set]
theorem Sets.wipe {K : PySem.W.Frag} {H : Hp} {is vs : List Nat} {σ σ1 : L2.St} {ρ ρ1 : Rho} (a : Sets K H is σ ρ σ1 ρ1) (h : ∀ i ∈ is, i ∈ vs) : L2.wipe σ1 vs = L2.wipe σ vs := by
  induction a with
  | refl => rfl
  | step hi _ _ ih => rw [wipe_set (h _ hi), ih]
theorem wipe_wipe {σ : L2.St} : ∀ (vs : List Nat), wipe (wipe σ vs) vs = wipe σ vs := by
  intro vs
  have gen : ∀ (us ws : List Nat), (∀ u ∈ us, u ∈ ws) → wipe (wipe σ us) ws = wipe σ ws := by
    intro us
    induction us with
    | nil => intro ws _; rfl
    | cons u us ih =>
      intro ws h
      show wipe ((wipe σ us).set u none) ws = _
      rw [wipe_set (h u List.mem_cons_self), ih ws fun x hx => h x (List.mem_cons_of_mem _ hx)]
  exact gen vs vs fun _ h => h

abbrev Tgt := D → Rho → Option Rho
def tT (K : PySem.W.Frag) (is : List Nat) (t : Tgt) : TG := fun v σ H Q => ∃ ρ d ρ', ER K H σ ρ ∧ RepF K H d v ∧ t d ρ = some ρ' ∧ ∀ σ' H', Same H H' → Sets K H' is σ ρ σ' ρ' → Q σ' H'
def tTs (K : PySem.W.Frag) (is : List Nat) (t : List D → Rho → Option Rho) : TGs := fun vs σ H Q => ∃ ρ ds ρ', ER K H σ ρ ∧ RepL K H ds vs ∧ t ds ρ = some ρ' ∧ ∀ σ' H', Same H H' → Sets K H' is σ ρ σ' ρ' → Q σ' H'
def GE (X : Cx) (tg : Expr) (is : List Nat) (t : Tgt) : Prop := PG X tg (tT X.K is t)
def GEs (X : Cx) (tg : List Expr) (is : List Nat) (t : List D → Rho → Option Rho) : Prop := PGs X tg (tTs X.K is t)
theorem PG.weak {X : Cx} {tg : Expr} {t t' : TG} (h : PG X tg t) (k : ∀ v σ H Q, t' v σ H Q → t v σ H Q) : PG X tg t' := ⟨fun pins s σ H v u Q I r q => h.run pins s σ H v u Q I r (k v σ H Q q)⟩
theorem PGs.weak {X : Cx} {tg : List Expr} {t t' : TGs} (h : PGs X tg t) (k : ∀ v σ H Q, t' v σ H Q → t v σ H Q) : PGs X tg t' := ⟨fun pins s σ H v u Q I r q => h.run pins s σ H v u Q I r (k v σ H Q q)⟩
def tName (i : Nat) : Tgt := fun d ρ => some (ρ.set i (some d))
def tNil : List D → Rho → Option Rho
  | [], ρ => some ρ
  | _ :: _, _ => none
def tCons (t : Tgt) (ts : List D → Rho → Option Rho) : List D → Rho → Option Rho
  | d :: r, ρ => (t d ρ).bind (ts r)
  | [], _ => none
def tTup (n : Nat) (ts : List D → Rho → Option Rho) : Tgt := fun d ρ => match d with
  | .tup ds => if ds.length = n then ts ds ρ else none
  | _ => none
section
variable {X : Cx} {pos : Pos}
theorem ge_name {x : Str} (i : Nat) (hN : X.N.Nodup) (hi : X.N[i]? = some x) (hx : Loc X.env.scope x) (hf : X.fn x = true ∨ X.env.scope.names.lookup x = some .local) : GE X (.Name x pos) [i] (tName i) :=
  PG.weak (pg_name hN hi hx hf) fun v σ H Q ⟨ρ, d, ρ', er, r, ht, q⟩ => by
    cases ht
    exact q _ H (Same.refl H) (.step (by simp) .refl r)
theorem ges_nil : GEs X [] [] tNil := PGs.weak pgs_nil fun vs σ H Q ⟨ρ, ds, ρ', er, r, ht, q⟩ => by
  cases ds with
  | nil => simp only [RepL] at r; cases ht; exact ⟨r, q σ H (Same.refl H) .refl⟩
  | cons d ds => simp [tNil] at ht
theorem ges_cons {e : Expr} {es : List Expr} {is js : List Nat} {t : Tgt} {ts : List D → Rho → Option Rho} (h1 : GE X e is t) (h2 : GEs X es js ts) (hs : (assignEach (e :: es) X.env).map (·.2) = assign e X.env :: (assignEach es X.env).map (·.2) := by rfl) :
    GEs X (e :: es) (is ++ js) (tCons t ts) := PGs.weak (pgs_cons h1 h2 hs) fun vs σ H Q ⟨ρ, ds, ρ', er, r, ht, q⟩ => by
  cases ds with
  | nil => simp [tCons] at ht
  | cons d ds =>
    obtain ⟨ρ1, h3, h4⟩ := Option.bind_eq_some_iff.mp ht
    simp only [RepL] at r
    obtain ⟨v, vr, rfl, r1, r2⟩ := r
    refine ⟨v, vr, rfl, ρ, d, ρ1, er, r1, h3, fun σ1 H1 s1 st1 => ⟨ρ1, ds, ρ', st1.er (er.same s1), r2.ext (Ext.of s1), h4, fun σ2 H2 s2 st2 => q σ2 H2 (s1.trans s2) ?_⟩⟩
    exact ((st1.ext (Ext.of s2)).mono fun i hi => List.mem_append_left _ hi).trans (st2.mono fun i hi => List.mem_append_right _ hi)
theorem ge_tup {es : List Expr} {k n : Nat} {is : List Nat} {ts : List D → Rho → Option Rho} (hc : X.calm = true) (h : GEs X es is ts) (hn : (assignEach es X.env).length = n := by rfl) (hst : (assignEach es X.env).findIdx? (·.1) = none := by rfl) :
    GE X (.Tuple es k pos) is (tTup n ts) := PG.weak (pg_tup hc h hn hst) fun v σ H Q ⟨ρ, d, ρ', er, r, ht, q⟩ => by
  cases d <;> simp only [tTup, reduceCtorEq] at ht
  split at ht
  · rename_i hl
    obtain ⟨a, vs, rfl, ha, ra⟩ := repW_tup (RepW.of r)
    exact ⟨a, vs, rfl, ha, by rw [ra.length]; exact hl, ρ, _, ρ', er, ra, ht, q⟩
  · cases ht
end

/-! ### comprehensions -/
def compGo (t : Tgt) (c : Rho → Option Bool) (e : Rho → Option D) (ρ : Rho) : List D → Option (List D)
  | [] => some []
  | d :: r => (t d ρ).bind fun ρ1 => (c ρ1).bind fun b => if b = true then (e ρ1).bind fun y => (compGo t c e ρ r).map (y :: ·) else compGo t c e ρ r
def fComp (src : Rho → Option (List D)) (vs : List Nat) (t : Tgt) (c : Rho → Option Bool) (e : Rho → Option D) : Rho → Option D := fun ρ => (src ρ).bind fun l => if small l.length then (compGo t c e (wipeR ρ vs) l).map .opn else none
def cYes : Rho → Option Bool := fun _ => some true
/-- a clause's tests -/
def IFs (X : Cx) (ifs : List Expr) (c : Rho → Option Bool) : Prop := PTs X ifs (tB X.K c)
theorem PTs.weak {X : Cx} {ifs : List Expr} {t t' : TT} (h : PTs X ifs t) (k : ∀ σ H Q, t' σ H Q → t σ H Q) : PTs X ifs t' := ⟨fun pins s σ H Q I q => h.run pins s σ H Q I (k σ H Q q)⟩
theorem ifs_nil {X : Cx} : IFs X [] cYes := PTs.weak pts_nil fun σ H Q ⟨ρ, b, er, hf, q⟩ => by cases hf; exact q H (Same.refl H)
theorem ifs_one {X : Cx} {c : Expr} {f : Rho → Option Bool} (h : BE X c f) : IFs X [c] f := pts_one h
theorem tlc_of {K : PySem.W.Frag} {b : Bool} {src : Rho → Option (List D)} {is vs : List Nat} {t : Tgt} {c : Rho → Option Bool} {e : Rho → Option D} (hv : ∀ i ∈ is, i ∈ vs) {σ : L2.St} {H : Hp} {Q : VK}
    (h : tM K (fComp src vs t c e) σ H Q) : tLc (iI K b src) (tT K is t) (tB K c) (tF K e) vs σ H Q := by
  obtain ⟨ρ, d0, er, hf, q⟩ := h
  obtain ⟨l, h1, h2⟩ := Option.bind_eq_some_iff.mp hf
  split at h2
  · rename_i hsm
    obtain ⟨out, h3, rfl⟩ := Option.map_eq_some_iff.mp h2
    refine ⟨ρ, l, er, h1, fun J H1 S s1 w hS _ D hD => ?_⟩
    have hl := small_le hsm
    refine ⟨fun i m H2 => m = l.length - i ∧ i ≤ l.length ∧ ∃ acc rest vs2, compGo t c e (wipeR ρ vs) (l.drop i) = some rest ∧ acc ++ rest = out ∧ H2 D = some (.lst vs2) ∧ RepL K H2 acc vs2 ∧ acc.length ≤ i ∧ Same H1 H2,
      ⟨l.length, by simp, Nat.zero_le _, [], out, [], by simpa using h3, rfl, upd_same, .nil, Nat.le_refl _, same_new hD⟩, ?_⟩
    rintro i m H2 ⟨rfl, hi, acc, rest, vs2, g1, g2, g3, g4, g5, g6⟩
    have kS : ∀ a, S a → H2 a = H1 a := fun a ha => by
      obtain ⟨xs, hx⟩ := hS a ha
      rw [hx, g6 a _ hx]
    by_cases hlt : i < l.length
    · refine .inr ⟨w.go i H2 hlt (Ext.of g6) kS, _, fun H' n => ⟨l.length - (i + 1), by omega, rfl, hlt, n⟩, fun x H3 y => ?_⟩
      have hd : l[i]? = some l[i] := List.getElem?_eq_getElem hlt
      obtain ⟨s3, r3⟩ := w.yld i H2 x H3 l[i] hd (Ext.of g6) kS y
      have e1 : l.drop i = l[i] :: l.drop (i + 1) := List.drop_eq_getElem_cons hlt
      rw [e1] at g1
      simp only [compGo] at g1
      obtain ⟨ρ1, t1, g1a⟩ := Option.bind_eq_some_iff.mp g1
      obtain ⟨bb, t2, g1b⟩ := Option.bind_eq_some_iff.mp g1a
      have er3 : ER K H3 (wipe σ vs) (wipeR ρ vs) := er_wipe (er.same ((s1.trans g6).trans s3)) vs
      refine ⟨wipeR ρ vs, l[i], ρ1, er3, r3, t1, fun σ4 H4 s4 st => ⟨?_, ?_⟩⟩
      · rw [st.wipe hv, wipe_wipe]
      refine ⟨ρ1, bb, st.er (er3.same s4), t2, fun H5 s5 => ?_⟩
      cases bb with
      | false =>
        simp only [Bool.false_eq_true, if_false] at g1b ⊢
        have s25 := (s3.trans s4).trans s5
        exact ⟨acc, rest, vs2, g1b, g2, s25 _ _ g3, g4.ext (Ext.of s25), by omega, g6.trans s25⟩
      | true =>
        simp only [if_true] at g1b ⊢
        obtain ⟨y1, t3, g1c⟩ := Option.bind_eq_some_iff.mp g1b
        obtain ⟨rest', g1d, rfl⟩ := Option.map_eq_some_iff.mp g1c
        refine ⟨ρ1, y1, st.er (er3.same s4) |>.same s5, t3, fun v H6 s6 r6 => ?_⟩
        have s26 := ((s3.trans s4).trans s5).trans s6
        have g36 := s26 _ _ g3
        have ext : Ext H6 (upd H6 D (.lst (vs2 ++ [v]))) := Ext.updO (.inl (by rw [g36]; trivial))
        refine ⟨vs2, g36, ?_, acc ++ [y1], rest', vs2 ++ [v], g1d, by rw [List.append_assoc]; exact g2, upd_same, ?_, by rw [List.length_append, List.length_singleton]; omega, same_new2 (g6.trans s26) hD⟩
        · rw [g4.length]; omega
        · exact ((g4.ext (Ext.of s26)).append (RepL.one r6)).ext ext
    · have e : i = l.length := by omega
      subst e
      rw [List.drop_length] at g1
      simp only [compGo] at g1
      cases g1
      rw [List.append_nil] at g2
      subst g2
      exact .inl ⟨w.stop H2 (Ext.of g6) kS, q _ H2 (s1.trans g6) ⟨D, vs2, rfl, s1.free hD, g3, g4⟩⟩
  · cases h2
section
variable {X : Cx}
theorem me_lc {elt tg iter : Expr} {ifs : List Expr} {scope : Scope} {own : List (Str × Nat)} {pos : Pos} {b : Bool} {src : Rho → Option (List D)} {is vs : List Nat} {t : Tgt} {c : Rho → Option Bool} {e : Rho → Option D} (hc : X.calm = true) (hN : X.N.Nodup) (hi : IE X tg iter b src) (ok : BlkOk X.N X.env.scope scope own)
    (hg : ∀ (s : Shared) (H : Hp) (C : Addr) (cl : List (Str × Addr)) (fp : List Addr), GE (X.blk s H scope (compEnvC scope cl C X.env) fp) tg is t) (ht : ∀ (s : Shared) (H : Hp) (C : Addr) (cl : List (Str × Addr)) (fp : List Addr), IFs (X.blk s H scope (compEnvC scope cl C X.env) fp) ifs c)
    (he : ∀ (s : Shared) (H : Hp) (C : Addr) (cl : List (Str × Addr)) (fp : List Addr), FE (X.blk s H scope (compEnvC scope cl C X.env) fp) elt e) (hvs : own.map (·.2) = vs := by rfl) (hv : ∀ i ∈ is, i ∈ vs := by decide) (hs : ∀ x, foldedSetIterable iter X.env x = pure x := by intro _; rfl) :
    ME X (.ListComp elt [⟨tg, iter, ifs, 0⟩] scope pos) (fComp src vs t c e) := by
  subst hvs
  exact PE.weak (pe_lc (g := tT X.K is t) (tt := tB X.K c) (te := tF X.K e) hc hN hi ok hg ht he hs) fun σ H Q h => tlc_of hv h
theorem fe_lc {elt tg iter : Expr} {ifs : List Expr} {scope : Scope} {own : List (Str × Nat)} {pos : Pos} {b : Bool} {src : Rho → Option (List D)} {is vs : List Nat} {t : Tgt} {c : Rho → Option Bool} {e : Rho → Option D} (hc : X.calm = true) (hN : X.N.Nodup) (hi : IE X tg iter b src) (ok : BlkOk X.N X.env.scope scope own)
    (hg : ∀ (s : Shared) (H : Hp) (C : Addr) (cl : List (Str × Addr)) (fp : List Addr), GE (X.blk s H scope (compEnvC scope cl C X.env) fp) tg is t) (ht : ∀ (s : Shared) (H : Hp) (C : Addr) (cl : List (Str × Addr)) (fp : List Addr), IFs (X.blk s H scope (compEnvC scope cl C X.env) fp) ifs c)
    (he : ∀ (s : Shared) (H : Hp) (C : Addr) (cl : List (Str × Addr)) (fp : List Addr), FE (X.blk s H scope (compEnvC scope cl C X.env) fp) elt e) (hvs : own.map (·.2) = vs := by rfl) (hv : ∀ i ∈ is, i ∈ vs := by decide) (hs : ∀ x, foldedSetIterable iter X.env x = pure x := by intro _; rfl) :
    FE X (.ListComp elt [⟨tg, iter, ifs, 0⟩] scope pos) (fz (fComp src vs t c e)) := fe_of_me (me_lc hc hN hi ok hg ht he hvs hv hs)
end
end PL
/-! ### part PL9 -/
namespace PL
open PySem PySem.Spec PyProof.Rows L2

/-! ### statements -/
inductive Fl where
  | nx (ρ : Rho) | rt (d : D) | bk (ρ : Rho) | ct (ρ : Rho)
/-- what is wanted of an end, from H on -/
def FlK (K : PySem.W.Frag) (H0 H : Hp) (E : Ends) : Fl → Prop
  | .nx ρ => ∀ σ H', Ext H H' → ERS K H0 H' σ ρ → E.nx σ H'
  | .bk ρ => ∀ σ H', Ext H H' → ERS K H0 H' σ ρ → E.bk σ H'
  | .ct ρ => ∀ σ H', Ext H H' → ERS K H0 H' σ ρ → E.ct σ H'
  | .rt d => ∀ v H', Same H0 H' → RepM K H0 H' d v → E.rt v H'
theorem FlK.ext {K : PySem.W.Frag} {H0 H H' : Hp} {E : Ends} {fl : Fl} (h : FlK K H0 H E fl) (e : Ext H H') : FlK K H0 H' E fl := by
  cases fl with
  | rt d => exact h
  | nx ρ => exact fun σ H2 e2 r => h σ H2 (e.trans e2) r
  | bk ρ => exact fun σ H2 e2 r => h σ H2 (e.trans e2) r
  | ct ρ => exact fun σ H2 e2 r => h σ H2 (e.trans e2) r
def tS (K : PySem.W.Frag) (H0 : Hp) (g : Rho → Option Fl) : TS := fun E σ H => ∃ ρ fl, ERS K H0 H σ ρ ∧ g ρ = some fl ∧ FlK K H0 H E fl
def SE (X : Cx) (H0 : Hp) (st : Stmt) (g : Rho → Option Fl) : Prop := PS X st (tS X.K H0 g)
def SEs (X : Cx) (H0 : Hp) (st : List Stmt) (g : Rho → Option Fl) : Prop := PSs X st (tS X.K H0 g)
theorem PSs.weak {X : Cx} {st : List Stmt} {t t' : TS} (h : PSs X st t) (k : ∀ D σ H, t' D σ H → t D σ H) : PSs X st t' := ⟨fun pins s σ H D I q => h.run pins s σ H D I (k D σ H q)⟩
def gNil : Rho → Option Fl := fun ρ => some (.nx ρ)
def thenG (g2 : Rho → Option Fl) : Fl → Option Fl
  | .nx ρ => g2 ρ
  | fl => some fl
def gSeq (g1 g2 : Rho → Option Fl) : Rho → Option Fl := fun ρ => (g1 ρ).bind (thenG g2)
section
variable {X : Cx} {H0 : Hp} {st : Stmt} {sts : List Stmt} {g g1 g2 : Rho → Option Fl} {e a b c : Expr} {f fa fb fc : Rho → Option D} {pos : Pos}
theorem ses_nil : SEs X H0 [] gNil := PSs.weak pss_nil fun E σ H ⟨ρ, fl, er, hf, k⟩ => by cases hf; exact k σ H (Ext.refl H) er
theorem ses_cons (h1 : SE X H0 st g1) (h2 : SEs X H0 sts g2) : SEs X H0 (st :: sts) (gSeq g1 g2) := PSs.weak (pss_cons h1 h2) fun E σ H ⟨ρ, fl, er, hf, k⟩ => by
  obtain ⟨fl1, h3, h4⟩ := Option.bind_eq_some_iff.mp hf
  refine ⟨ρ, fl1, er, h3, ?_⟩
  cases fl1 with
  | nx ρ' => exact fun σ' H' e' er' => ⟨ρ', fl, er', h4, k.ext e'⟩
  | rt d => cases h4; exact k
  | bk ρ' => cases h4; exact k
  | ct ρ' => cases h4; exact k
theorem se_pass : SE X H0 (.Pass pos) gNil := PS.weak ps_pass fun E σ H ⟨ρ, fl, er, hf, k⟩ => by cases hf; exact k σ H (Ext.refl H) er
def gBreak : Rho → Option Fl := fun ρ => some (.bk ρ)
def gCont : Rho → Option Fl := fun ρ => some (.ct ρ)
theorem se_break : SE X H0 (.Break pos) gBreak := PS.weak ps_break fun E σ H ⟨ρ, fl, er, hf, k⟩ => by cases hf; exact k σ H (Ext.refl H) er
theorem se_continue : SE X H0 (.Continue pos) gCont := PS.weak ps_continue fun E σ H ⟨ρ, fl, er, hf, k⟩ => by cases hf; exact k σ H (Ext.refl H) er
/-- name = e -/
def gSet (i : Nat) (f : Rho → Option D) : Rho → Option Fl := fun ρ => (f ρ).map fun d => .nx (ρ.set i (some d))
theorem tset_of {i : Nat} {E : Ends} {σ : L2.St} {H : Hp} (h : tS X.K H0 (gSet i f) E σ H) : tAsg (tM X.K f) (gName i) E σ H := by
  obtain ⟨ρ, fl, er, hf, k⟩ := h
  obtain ⟨d, h1, rfl⟩ := Option.map_eq_some_iff.mp hf
  exact ⟨ρ, d, er.toER, h1, fun v H' s r => k _ H' (Ext.of s) (er.set s r)⟩
theorem se_set {x : Str} {pos' : Pos} (i : Nat) (hN : X.N.Nodup) (hi : X.N[i]? = some x) (hx : Loc X.env.scope x) (he : ME X e f) (hf : X.fn x = true ∨ X.env.scope.names.lookup x = some .local)
    (hs : swapsWith e (some (.Name x pos')) pos.line X.env = pure false := by rfl) : SE X H0 (.Assign [.Name x pos'] e pos) (gSet i f) :=
  PS.weak (ps_set hN hi hx he hs hf) fun E σ H h => tset_of h
/-- name = [..] -/
theorem se_setLc {y : Str} {py : Pos} {elt tg iter : Expr} {ifs : List Expr} {scope : Scope} {own : List (Str × Nat)} {spos : Pos} {b : Bool} {src : Rho → Option (List D)} {is vs : List Nat} {t : Tgt} {c : Rho → Option Bool} {e : Rho → Option D} (i : Nat) (hc : X.calm = true) (hN : X.N.Nodup) (hy : X.N[i]? = some y) (hyl : X.env.scope.names.lookup y = some .local)
    (hsw : swapsWith (.ListComp elt [⟨tg, iter, ifs, 0⟩] scope pos) (some (.Name y py)) spos.line X.env = pure true) (hi : IE X tg iter b src) (ok : BlkOk X.N X.env.scope scope own)
    (hg : ∀ (s : Shared) (H : Hp) (C : Addr) (cl : List (Str × Addr)) (fp : List Addr), GE (X.blk s H scope (compEnvC scope cl C X.env) fp) tg is t) (ht : ∀ (s : Shared) (H : Hp) (C : Addr) (cl : List (Str × Addr)) (fp : List Addr), IFs (X.blk s H scope (compEnvC scope cl C X.env) fp) ifs c)
    (he : ∀ (s : Shared) (H : Hp) (C : Addr) (cl : List (Str × Addr)) (fp : List Addr), FE (X.blk s H scope (compEnvC scope cl C X.env) fp) elt e) (hvs : own.map (·.2) = vs := by rfl) (hv : ∀ i ∈ is, i ∈ vs := by decide) (hs : ∀ x, foldedSetIterable iter X.env x = pure x := by intro _; rfl) :
    SE X H0 (.Assign [.Name y py] (.ListComp elt [⟨tg, iter, ifs, 0⟩] scope pos) spos) (gSet i (fComp src vs t c e)) := by
  subst hvs
  refine PS.weak (ps_setLc (g := tT X.K is t) (tt := tB X.K c) (te := tF X.K e) hc hN hy hyl hsw hi ok hg ht he hs) fun E σ H h => ?_
  exact tlc_of hv (tset_of h)
/-- a list of its own is left alone from here on -/
def gIce (i : Nat) (g : Rho → Option Fl) : Rho → Option Fl := fun ρ => match ρ[i]? with
  | some (some (.opn ds)) => g (ρ.set i (some (.lst ds)))
  | _ => none
theorem se_ice (i : Nat) (h : SE X H0 st g) : SE X H0 st (gIce i g) := by
  refine ⟨fun pins s σ H E I ⟨ρ, fl, er, hf, k⟩ => ?_⟩
  unfold gIce at hf
  split at hf
  · rename_i ds hi
    obtain ⟨v, hv, a, vs, rfl, hH, hr⟩ := er.slot i _ hi
    obtain ⟨od, I2⟩ := I.lock hH trivial
    have ext : Ext H (upd H a (.frz od (.lst vs))) := Ext.updO (.inl (by rw [hH]; trivial))
    exact h.run pins s σ _ E I2 ⟨_, fl, er.ice hi hv hH, hf, k.ext ext⟩
  · cases hf
/-- .. where a def's mirror just freezes what is assigned -/
def gRet (f : Rho → Option D) : Rho → Option Fl := fun ρ => (f ρ).map .rt
theorem se_ret (he : ME X e f) : SE X H0 (.Return (some e) pos) (gRet f) := PS.weak (ps_ret he) fun E σ H ⟨ρ, fl, er, hf, k⟩ => by
  obtain ⟨d, h1, rfl⟩ := Option.map_eq_some_iff.mp hf
  exact ⟨ρ, d, er.toER, h1, fun v H' s r => k v H' (er.sm.trans s) (r.back er.sm)⟩
def gRetN : Rho → Option Fl := fun _ => some (.rt .non)
theorem se_retN : SE X H0 (.Return none pos) gRetN := PS.weak ps_retN fun E σ H ⟨ρ, fl, er, hf, k⟩ => by
  cases hf
  exact k .non H er.sm (.of repF_non)
/-- return of a list of its own -/
def gRetV (i : Nat) : Rho → Option Fl := fun ρ => match ρ[i]? with
  | some (some (.opn ds)) => some (.rt (.opn ds))
  | _ => none
theorem se_retV {x : Str} {pos' : Pos} (i : Nat) (hN : X.N[i]? = some x) (hv : Vis X.env.scope x) (hd : (x == ("__debug__" : Str)) = false := by decide) (hcd : (x == ("__classdict__" : Str)) = false := by decide) : SE X H0 (.Return (some (.Name x pos')) pos) (gRetV i) :=
  PS.weak (ps_ret (pe_var hN hv hd hcd)) fun E σ H ⟨ρ, fl, er, hf, k⟩ => by
    unfold gRetV at hf
    split at hf
    · rename_i ds hi
      cases hf
      obtain ⟨v, hv, a, vs, rfl, hH, hr⟩ := er.slot i _ hi
      exact ⟨_, hv, k _ H er.sm ⟨a, vs, rfl, er.fresh i ds a hi hv, hH, hr⟩⟩
    · cases hf
def gIf (c : Rho → Option Bool) (g1 g2 : Rho → Option Fl) : Rho → Option Fl := fun ρ => (c ρ).bind fun k => if k = true then g1 ρ else g2 ρ
theorem se_if {cx : Expr} {c : Rho → Option Bool} {s1 s2 : List Stmt} (hc : BE X cx c) (h1 : SEs X H0 s1 g1) (h2 : SEs X H0 s2 g2) : SE X H0 (.If cx s1 s2 pos) (gIf c g1 g2) :=
  PS.weak (ps_if hc h1 h2) fun E σ H ⟨ρ, fl, er, hf, k⟩ => by
    obtain ⟨b, h3, h4⟩ := Option.bind_eq_some_iff.mp hf
    refine ⟨ρ, b, er.toER, h3, fun H1 s1 => ?_⟩
    cases b with
    | true => exact ⟨ρ, fl, er.same s1, by simpa using h4, k.ext (Ext.of s1)⟩
    | false => exact ⟨ρ, fl, er.same s1, by simpa using h4, k.ext (Ext.of s1)⟩
/-- a, b = e -/
def gAsg (t : Tgt) (f : Rho → Option D) : Rho → Option Fl := fun ρ => (f ρ).bind fun d => (t d ρ).map .nx
theorem se_asg {tg : Expr} {is : List Nat} {t : Tgt} (he : FE X e f) (hg : GE X tg is t) (hs : swapsWithSole [tg] e pos.line X.env = pure false := by rfl) (hw : swappedStores [tg] e X.env = pure none := by rfl)
    (h1 : (assignEach [tg] X.env).map (·.2) = [assign tg X.env] := by rfl) : SE X H0 (.Assign [tg] e pos) (gAsg t f) := PS.weak (ps_asg he hg hs hw h1) fun E σ H ⟨ρ, fl, er, hf, k⟩ => by
  obtain ⟨d, h3, h4⟩ := Option.bind_eq_some_iff.mp hf
  obtain ⟨ρ', h5, rfl⟩ := Option.map_eq_some_iff.mp h4
  exact ⟨ρ, d, er.toER, h3, fun v H1 s1 r1 => ⟨ρ, d, ρ', (er.same s1).toER, r1, h5, fun σ' H' s' st => k _ H' (Ext.of (s1.trans s')) (st.ers (er.same (s1.trans s')))⟩⟩
/-- a, b = e1, e2 -/
def gPar2 (i j : Nat) (fa fb : Rho → Option D) : Rho → Option Fl := fun ρ => (fa ρ).bind fun x => (fb ρ).map fun y => .nx ((ρ.set i (some x)).set j (some y))
theorem se_par2 {x y : Str} {px py pt : Pos} {kt k2 pt2} (i j : Nat) (hc : X.calm = true) (hN : X.N.Nodup) (hi : X.N[i]? = some x) (hj : X.N[j]? = some y) (hij : i ≠ j)
    (hx : X.env.scope.names.lookup x = some .local) (hy : X.env.scope.names.lookup y = some .local) (ha : ME X a fa) (hb : ME X b fb)
    (hw : swappedStores [.Tuple [.Name x px, .Name y py] kt pt] (.Tuple [a, b] k2 pt2) X.env = pure (some [x, y]))
    (hs : swapsWithSole [.Tuple [.Name x px, .Name y py] kt pt] (.Tuple [a, b] k2 pt2) pos.line X.env = pure false := by rfl)
    (hs1 : starEach [a, b] X.env = (false, eval a X.env) :: starEach [b] X.env := by rfl) (hs2 : starEach [b] X.env = (false, eval b X.env) :: starEach [] X.env := by rfl) :
    SE X H0 (.Assign [.Tuple [.Name x px, .Name y py] kt pt] (.Tuple [a, b] k2 pt2) pos) (gPar2 i j fa fb) :=
  PS.weak (ps_par hc hN hi hj hij hx hy (pa_cons ha (pa_cons hb pa_nil hs2) hs1) hw hs) fun E σ H ⟨ρ, fl, er, hf, k⟩ => by
    obtain ⟨d1, h3, h4⟩ := Option.bind_eq_some_iff.mp hf
    obtain ⟨d2, h5, rfl⟩ := Option.map_eq_some_iff.mp h4
    exact ⟨ρ, d1, er.toER, h3, fun v H1 s1 r1 => ⟨ρ, d2, (er.same s1).toER, h5, fun u H2 s2 r2 => ⟨v, u, rfl, k _ H2 (Ext.of (s1.trans s2)) ((er.set s1 r1).set s2 r2)⟩⟩⟩
def gPar3 (i j l : Nat) (fa fb fc : Rho → Option D) : Rho → Option Fl := fun ρ => (fa ρ).bind fun x => (fb ρ).bind fun y => (fc ρ).map fun z => .nx (((ρ.set i (some x)).set j (some y)).set l (some z))
theorem se_par3 {x y z : Str} {px py pz pt : Pos} {kt k2 pt2} (i j l : Nat) (hc : X.calm = true) (hN : X.N.Nodup) (hi : X.N[i]? = some x) (hj : X.N[j]? = some y) (hl : X.N[l]? = some z) (hij : i ≠ j) (hil : i ≠ l) (hjl : j ≠ l)
    (hx : X.env.scope.names.lookup x = some .local) (hy : X.env.scope.names.lookup y = some .local) (hz : X.env.scope.names.lookup z = some .local) (ha : ME X a fa) (hb : ME X b fb) (hcc : ME X c fc)
    (hw : swappedStores [.Tuple [.Name x px, .Name y py, .Name z pz] kt pt] (.Tuple [a, b, c] k2 pt2) X.env = pure (some [x, y, z]))
    (hs : swapsWithSole [.Tuple [.Name x px, .Name y py, .Name z pz] kt pt] (.Tuple [a, b, c] k2 pt2) pos.line X.env = pure false := by rfl)
    (hs1 : starEach [a, b, c] X.env = (false, eval a X.env) :: starEach [b, c] X.env := by rfl) (hs2 : starEach [b, c] X.env = (false, eval b X.env) :: starEach [c] X.env := by rfl) (hs3 : starEach [c] X.env = (false, eval c X.env) :: starEach [] X.env := by rfl) :
    SE X H0 (.Assign [.Tuple [.Name x px, .Name y py, .Name z pz] kt pt] (.Tuple [a, b, c] k2 pt2) pos) (gPar3 i j l fa fb fc) :=
  PS.weak (ps_par3 hc hN hi hj hl hij hil hjl hx hy hz (pa_cons ha (pa_cons hb (pa_cons hcc pa_nil hs3) hs2) hs1) hw hs) fun E σ H ⟨ρ, fl, er, hf, k⟩ => by
    obtain ⟨d1, h3, h4⟩ := Option.bind_eq_some_iff.mp hf
    obtain ⟨d2, h5, h6⟩ := Option.bind_eq_some_iff.mp h4
    obtain ⟨d3, h7, rfl⟩ := Option.map_eq_some_iff.mp h6
    exact ⟨ρ, d1, er.toER, h3, fun v H1 s1 r1 => ⟨ρ, d2, (er.same s1).toER, h5, fun u H2 s2 r2 => ⟨ρ, d3, ((er.same s1).same s2).toER, h7, fun w H3 s3 r3 =>
      ⟨v, u, w, rfl, k _ H3 (Ext.of ((s1.trans s2).trans s3)) (((er.set s1 r1).set s2 r2).set s3 r3)⟩⟩⟩⟩
/-- x += e, ints -/
def gAug (i : Nat) (f : Rho → Option D) : Rho → Option Fl := fun ρ => match ρ[i]?, f ρ with
  | some (some (.int a)), some (.int b) => some (.nx (ρ.set i (some (.int (a + b)))))
  | _, _ => none
theorem se_aug {x : Str} {pos' : Pos} (i : Nat) (hN : X.N.Nodup) (hi : X.N[i]? = some x) (hx : Loc X.env.scope x) (he : FE X e f) (hf : X.fn x = true ∨ X.env.scope.names.lookup x = some .local) :
    SE X H0 (.AugAssign (.Name x pos') .Add e pos) (gAug i f) := PS.weak (ps_aug hN hi hx he ip_add hf) fun E σ H ⟨ρ, fl, er, hf, k⟩ => by
  unfold gAug at hf
  split at hf
  · rename_i a b hi hb
    cases hf
    obtain ⟨v, hv, r⟩ := er.slot i _ hi
    have rv : v = .int a := by
      have r : RepF X.K H (.int a) v := r
      simpa only [RepF] using r
    subst rv
    refine ⟨_, hv, ρ, _, er.toER, hb, fun u H1 s1 r1 => ⟨a, b, rfl, ?_, ?_⟩⟩
    · simpa only [RepF] using r1
    · exact k _ H1 (Ext.of s1) (er.set s1 (.of repF_int))
  · cases hf
/-- x.append(e) -/
def gApp (i : Nat) (f : Rho → Option D) : Rho → Option Fl := fun ρ => (f ρ).bind fun d => match ρ[i]? with
  | some (some (.opn ds)) => if ds.length < 16777216 then some (.nx (ρ.set i (some (.opn (ds ++ [d]))))) else none
  | _ => none
theorem se_app {x : Str} {px apos cpos : Pos} (i : Nat) (hN : X.N[i]? = some x) (hv : Vis X.env.scope x) (he : FE X e f) (hd : (x == ("__debug__" : Str)) = false := by decide) (hcd : (x == ("__classdict__" : Str)) = false := by decide)
    (hbase : attributeBase (.Name x px) "append" X.env (eval (.Name x px) X.env) = eval (.Name x px) X.env := by rfl)
    (hfew : ((backTo cpos (starEach [e] X.env)).all (fun x => !x.1) && (backToKw cpos (keywordEach [] X.env)).all (fun x => x.1.isSome)
      && decide ([e].length + ([] : List Keyword).length + (if ([] : List Keyword).isEmpty then 0 else 1) < 30)) = true := by rfl)
    (hline : (apos.endLine == cpos.line) = true := by rfl) (hs : starEach [e] X.env = (false, eval e X.env) :: starEach [] X.env := by rfl) (hplain : (backTo cpos (starEach [] X.env)).any (·.1) = false := by rfl)
    (hsw : swapsWith (.Call (.Attribute (.Name x px) "append" apos) [e] [] cpos) none pos.line X.env = pure false := by rfl) :
    SE X H0 (.Expr (.Call (.Attribute (.Name x px) "append" apos) [e] [] cpos) pos) (gApp i f) :=
  PS.weak (ps_expr (pe_bm PySem.F.plainAttrs_list PySem.F.slot_list_append PySem.F.type_list_append mt_append (pe_var hN hv hd hcd) (pa_cons he pa_nil hs) hbase hfew hline hs hplain) hsw) fun E σ H ⟨ρ, fl, er, hf, k⟩ => by
    obtain ⟨d, h1, h2⟩ := Option.bind_eq_some_iff.mp hf
    split at h2
    · rename_i ds hi
      split at h2 <;> cases h2
      rename_i hl
      obtain ⟨v, hv, a, vs, rfl, hH, hr⟩ := er.slot i _ hi
      refine ⟨_, hv, .inl ⟨rfl, _, .inl (.inl hH)⟩, ρ, d, er.toER, h1, fun u H1 s1 r1 => ?_⟩
      have hH1 := s1 _ _ hH
      refine ⟨a, vs, u, rfl, rfl, hH1, by rw [hr.length, sizeLine_eq]; exact hl, ?_⟩
      obtain ⟨er', ext⟩ := (er.same s1).put hi hv ((hr.ext (Ext.of s1)).append (RepL.one r1))
      exact k _ _ ((Ext.of s1).trans ext) er'
    · cases h2
/-- x[i] = e, x a list of its own -/
def gSetIx (i : Nat) (fi fe : Rho → Option D) : Rho → Option Fl := fun ρ => (fe ρ).bind fun d => (fi ρ).bind fun y => match y, ρ[i]? with
  | .int j, some (some (.opn ds)) => (ixN ds.length j).map fun n => .nx (ρ.set i (some (.opn (ds.set n d))))
  | _, _ => none
theorem se_setix {x : Str} {px spos : Pos} (i : Nat) (hN : X.N[i]? = some x) (hv : Vis X.env.scope x) (hi : FE X a fa) (he : FE X e f) (hd : (x == ("__debug__" : Str)) = false := by decide) (hcd : (x == ("__classdict__" : Str)) = false := by decide)
    (ha : ∀ v, assign (.Subscript (.Name x px) a spos) X.env v = (do
      let ov ← holding [v] (eval (.Name x px) X.env)
      let iv ← holding [v, ov] (eval a X.env)
      standAt spos
      holding [v, ov, iv] (setItem ov iv v)
      release [v, ov, iv] []) := by intro _; rfl)
    (hs : swapsWithSole [.Subscript (.Name x px) a spos] e pos.line X.env = pure false := by rfl) (hw : swappedStores [.Subscript (.Name x px) a spos] e X.env = pure none := by rfl)
    (h1 : (assignEach [.Subscript (.Name x px) a spos] X.env).map (·.2) = [assign (.Subscript (.Name x px) a spos) X.env] := by rfl) : SE X H0 (.Assign [.Subscript (.Name x px) a spos] e pos) (gSetIx i fa f) :=
  PS.weak (ps_asg he (pg_sub (pe_var hN hv hd hcd) hi set_list ha) hs hw h1) fun E σ H ⟨ρ, fl, er, hf, k⟩ => by
    obtain ⟨d, h2, h3⟩ := Option.bind_eq_some_iff.mp hf
    obtain ⟨y, h4, h5⟩ := Option.bind_eq_some_iff.mp h3
    split at h5
    · rename_i j ds hi
      obtain ⟨n, h6, rfl⟩ := Option.map_eq_some_iff.mp h5
      obtain ⟨v, hv, b, vs, rfl, hH, hr⟩ := er.slot i _ hi
      refine ⟨ρ, d, er.toER, h2, fun u H1 s1 r1 => ⟨_, hv, ρ, _, (er.same s1).toER, h4, fun w H2 s2 r2 => ?_⟩⟩
      have hj : w = .int j := by simpa only [RepF] using r2
      subst hj
      have s12 := s1.trans s2
      refine ⟨b, vs, j, n, rfl, rfl, s12 _ _ hH, by rw [hr.length]; exact h6, ?_⟩
      obtain ⟨er', ext⟩ := (er.same s12).put hi hv ((hr.ext (Ext.of s12)).set n (r1.ext (Ext.of s2)))
      exact k _ _ ((Ext.of s12).trans ext) er'
    · cases h5

/-! ### loops -/
def forGo (t : Tgt) (b : Rho → Option Fl) : List D → Rho → Option Fl
  | [], ρ => some (.nx ρ)
  | d :: r, ρ => (t d ρ).bind fun ρ1 => (b ρ1).bind fun fl => match fl with
    | .nx ρ2 => forGo t b r ρ2
    | .ct ρ2 => forGo t b r ρ2
    | .bk ρ2 => some (.nx ρ2)
    | .rt d => some (.rt d)
def gFor (src : Rho → Option (List D)) (t : Tgt) (b : Rho → Option Fl) : Rho → Option Fl := fun ρ => (src ρ).bind fun l => forGo t b l ρ
theorem se_for {tg iter : Expr} {body : List Stmt} {src : Rho → Option (List D)} {is : List Nat} {t : Tgt} (hp : PassesOwn (model X.prog X.w) X.A X.env X.xe) (hc : X.calm = true) (hi : IE X tg iter true src) (hg : GE X tg is t) (hb : SEs X H0 body g)
    (hs : ∀ x, foldedSetIterable iter X.env x = pure x := by intro _; rfl) : SE X H0 (.For tg iter body [] pos) (gFor src t g) := PS.weak (ps_for hp hc hi hg hb hs) fun E σ H ⟨ρ, fl, er, hf, k⟩ => by
  obtain ⟨l, h1, h2⟩ := Option.bind_eq_some_iff.mp hf
  refine ⟨ρ, l, er.toER, h1, fun J H1 S s1 w hS hE => ?_⟩
  have noS := hE rfl
  refine ⟨fun i m σ2 H2 => m = l.length - i ∧ i ≤ l.length ∧ ∃ ρ2, ERS X.K H0 H2 σ2 ρ2 ∧ Ext H1 H2 ∧ forGo t g (l.drop i) ρ2 = some fl, ⟨l.length, by simp, Nat.zero_le _, ρ, er.same s1, Ext.refl _, by simpa using h2⟩, ?_⟩
  rintro i m σ2 H2 ⟨rfl, hi, ρ2, er2, ext, hgo⟩
  by_cases hlt : i < l.length
  · refine .inr ⟨w.go i H2 hlt ext (fun a ha => (noS a ha).elim), _, fun σ' H' n => ⟨l.length - (i + 1), by omega, rfl, hlt, n⟩, fun x H3 y => ?_⟩
    have hd : l[i]? = some l[i] := List.getElem?_eq_getElem hlt
    obtain ⟨s3, r3⟩ := w.yld i H2 x H3 l[i] hd ext (fun a ha => (noS a ha).elim) y
    have e1 : l.drop i = l[i] :: l.drop (i + 1) := List.drop_eq_getElem_cons hlt
    rw [e1] at hgo
    simp only [forGo] at hgo
    obtain ⟨ρ3, t1, h3⟩ := Option.bind_eq_some_iff.mp hgo
    obtain ⟨fl3, t2, h4⟩ := Option.bind_eq_some_iff.mp h3
    refine ⟨ρ2, l[i], ρ3, (er2.same s3).toER, r3, t1, fun σ4 H4 s4 st => ?_⟩
    have s24 := s3.trans s4
    have ext4 := ext.trans (Ext.of s24)
    refine ⟨ρ3, fl3, st.ers (er2.same s24), t2, ?_⟩
    cases fl3 with
    | nx ρ5 => exact fun σ5 H5 e5 r5 => ⟨ρ5, r5, ext4.trans e5, h4⟩
    | ct ρ5 => exact fun σ5 H5 e5 r5 => ⟨ρ5, r5, ext4.trans e5, h4⟩
    | bk ρ5 =>
      cases h4
      exact fun σ5 H5 e5 r5 => k σ5 H5 (((Ext.of s1).trans ext4).trans e5) r5
    | rt d =>
      cases h4
      exact k
  · have e : i = l.length := by omega
    subst e
    rw [List.drop_length] at hgo
    cases hgo
    exact .inl ⟨w.stop H2 ext (fun a ha => (noS a ha).elim), k σ2 H2 ((Ext.of s1).trans ext) er2⟩
def whileGo (c : Rho → Option Bool) (b : Rho → Option Fl) : Nat → Rho → Option Fl
  | 0, _ => none
  | n + 1, ρ => (c ρ).bind fun k => if k = true then (b ρ).bind fun fl => match fl with
    | .nx ρ2 => whileGo c b n ρ2
    | .ct ρ2 => whileGo c b n ρ2
    | .bk ρ2 => some (.nx ρ2)
    | .rt d => some (.rt d) else some (.nx ρ)
/-- turns that are always enough -/
def FU : Nat := 1000000000
def gWhile (c : Rho → Option Bool) (b : Rho → Option Fl) : Rho → Option Fl := whileGo c b FU
theorem se_while {cx : Expr} {c : Rho → Option Bool} {body : List Stmt} (hp : PassesOwn (model X.prog X.w) X.A X.env X.xe) (hc : BE X cx c) (hb : SEs X H0 body g) : SE X H0 (.While cx body [] pos) (gWhile c g) :=
  PS.weak (ps_while hp hc hb) fun E σ H ⟨ρ, fl, er, hf, k⟩ => by
    refine ⟨fun m σ2 H2 => ∃ ρ2, ERS X.K H0 H2 σ2 ρ2 ∧ Ext H H2 ∧ whileGo c g m ρ2 = some fl, ⟨FU, ρ, er, Ext.refl _, hf⟩, ?_⟩
    rintro m σ2 H2 ⟨ρ2, er2, ext, hgo⟩
    cases m with
    | zero => simp [whileGo] at hgo
    | succ m =>
      simp only [whileGo] at hgo
      obtain ⟨b, h3, h4⟩ := Option.bind_eq_some_iff.mp hgo
      refine ⟨ρ2, b, er2.toER, h3, fun H3 s3 => ?_⟩
      cases b with
      | false =>
        simp only [Bool.false_eq_true, if_false] at h4 ⊢
        cases h4
        exact k σ2 H3 (ext.trans (Ext.of s3)) (er2.same s3)
      | true =>
        simp only [if_true] at h4 ⊢
        obtain ⟨fl3, t2, h5⟩ := Option.bind_eq_some_iff.mp h4
        refine ⟨_, fun σ' H' n => ⟨m, Nat.lt_succ_self m, n⟩, ρ2, fl3, er2.same s3, t2, ?_⟩
        have ext3 := ext.trans (Ext.of s3)
        cases fl3 with
        | nx ρ5 => exact fun σ5 H5 e5 r5 => ⟨ρ5, r5, ext3.trans e5, h5⟩
        | ct ρ5 => exact fun σ5 H5 e5 r5 => ⟨ρ5, r5, ext3.trans e5, h5⟩
        | bk ρ5 =>
          cases h5
          exact fun σ5 H5 e5 r5 => k σ5 H5 (ext3.trans e5) r5
        | rt d =>
          cases h5
          exact k
end

/-! ### defs -/
def spP (n : Nat) (K : PySem.W.Frag) (F : List D → Option D) : Sp := fun vs H Q _ => ∃ ds d, ds.length = n ∧ RepL K H ds vs ∧ F ds = some d ∧ ∀ v H', Same H H' → RepM K H H' d v → Q v H'
/-- a def's mirror: N slots -/
def runF (N : Nat) (g : Rho → Option Fl) : List D → Option D := fun ds => match g (ds.map some ++ List.replicate (N - ds.length) none) with
  | some (.rt d) => some d
  | some (.nx _) => some .non
  | _ => none
theorem repL_noOpn {K : PySem.W.Frag} {H : Hp} {ds : List D} {vs : List V} (r : RepL K H ds vs) {i : Nat} {xs : List D} (h : ds[i]? = some (.opn xs)) : False := by
  obtain ⟨v, _, r1⟩ := r.get h
  simp only [RepF] at r1
theorem ers_start {K : PySem.W.Frag} {H : Hp} {N : List Str} {ds : List D} {vs : List V} (r : RepL K H ds vs) : ERS K H H (start N vs) (ds.map some ++ List.replicate (N.length - ds.length) none) := by
  have at_ : ∀ (i : Nat) (d : D), (ds.map some ++ List.replicate (N.length - ds.length) none)[i]? = some (some d) → ds[i]? = some d := fun i d h => by
    by_cases hi : i < ds.length
    · rw [List.getElem?_append_left (by simpa using hi), List.getElem?_map] at h
      obtain ⟨x, h1, h2⟩ := Option.map_eq_some_iff.mp h
      cases h2
      exact h1
    · rw [List.getElem?_append_right (by simpa using hi)] at h
      have := List.getElem?_eq_some_iff.mp h
      obtain ⟨_, h2⟩ := this
      rw [List.getElem_replicate] at h2
      cases h2
  refine ⟨⟨?_, fun i d h => ?_⟩, Same.refl _, fun i xs a h => (repL_noOpn r (at_ i _ h)).elim, fun i j xs ys a h => (repL_noOpn r (at_ i _ h)).elim⟩
  · unfold L2.start
    simp [r.length]
  · obtain ⟨v, h1, h2⟩ := r.get (at_ i d h)
    refine ⟨v, ?_, .of h2⟩
    unfold L2.start
    have hi : i < vs.length := (List.getElem?_eq_some_iff.mp h1).1
    rw [List.getElem?_append_left (by simpa using hi), List.getElem?_map, h1]
    rfl
theorem fn_pure {P : Program} {w : World} {K : PySem.W.Frag} {mg : Str → Option Value} {base : Heap} {x qual : Str} {st : Stmt} {f : Addr} {fd : FuncData} {N ps : List Str} {k n : Nat} {g : Rho → Option Fl} (F : Fun K x qual st f fd) (S : FnScope N ps (defScope st)) (hn : ps.length = n)
    (h : ∀ (cdv : Value) (A : Around) (outer : List Env) (s : Shared) (H : Hp) (E : XK), Room k (A.deeper (envOfC qual (defScope st) s.heap.objs.size f cdv)) →
      SEs (cxOf CX0 P w K mg base N qual (defScope st) f cdv A outer s H E).nox H (defBody st) g) : FnOk P w K mg base CX0 (k + 1) f fd ps (spP n K (runF N.length g)) := by
  refine F.ok S (fun vs H Q E ⟨ds, d, hl, r, _⟩ => by rw [r.length, hl, hn]) (fun cdv A outer s H vs Q E hr hsp => ⟨_, h cdv A outer s H E hr, ?_⟩)
  obtain ⟨ds, d, hl, r, hF, q⟩ := hsp
  unfold runF at hF
  split at hF
  · rename_i d' hg
    cases hF
    exact ⟨_, _, ers_start r, hg, fun v H' s' r' => q v H' s' r'⟩
  · rename_i ρ hg
    cases hF
    exact ⟨_, _, ers_start r, hg, fun σ' H' e' r' => q .non H' r'.sm (.of repF_non)⟩
  · cases hF
def fCall (n : Nat) (F : List D → Option D) (fs : Rho → Option (List D)) : Rho → Option D := fun ρ => (fs ρ).bind fun ds => if ds.length = n then F ds else none
section
variable {X : Cx} {e : Expr} {es : List Expr} {pos : Pos}
theorem me_call {x : Str} {p : Pos} {k n : Nat} {f : Addr} {fd : FuncData} {ps : List Str} {F : List D → Option D} {fs : Rho → Option (List D)} (G : FnOk X.prog X.w X.K X.mg X.base CX0 k f fd ps (spP n X.K F)) (hr : Room k X.A) (hg : Gl X x) (hm : X.mg x = some (.ref f)) (hk : PySem.W.keepIn X.K (.ref f) = true) (hb : Binds X.K fd ps [])
    (ha : AE X (e :: es) fs) (hdb : (x == ("__debug__" : Str)) = false := by decide) (he : starEach (e :: es) X.env = (false, eval e X.env) :: starEach es X.env := by rfl) (hpl : (backTo pos (starEach es X.env)).any (·.1) = false := by rfl) :
    ME X (.Call (.Name x p) (e :: es) [] pos) (fCall n F fs) := PE.weak (pe_call G hr hg hm hk hb .nil pass0 ha hdb he hpl) fun σ H Q ⟨ρ, d, er, hf, q⟩ => by
  obtain ⟨ds, h1, h2⟩ := Option.bind_eq_some_iff.mp hf
  split at h2
  · rename_i hl
    refine ⟨ρ, ds, er, h1, fun vs H1 s1 r1 => ?_⟩
    show spP n X.K F (vs ++ []) H1 Q E0
    rw [List.append_nil]
    exact ⟨ds, d, hl, r1, h2, fun v H' s' r' => q v H' (s1.trans s') (r'.back s1)⟩
  · cases h2
theorem fe_call {x : Str} {p : Pos} {k n : Nat} {f : Addr} {fd : FuncData} {ps : List Str} {F : List D → Option D} {fs : Rho → Option (List D)} (G : FnOk X.prog X.w X.K X.mg X.base CX0 k f fd ps (spP n X.K F)) (hr : Room k X.A) (hg : Gl X x) (hm : X.mg x = some (.ref f)) (hk : PySem.W.keepIn X.K (.ref f) = true) (hb : Binds X.K fd ps [])
    (ha : AE X (e :: es) fs) (hdb : (x == ("__debug__" : Str)) = false := by decide) (he : starEach (e :: es) X.env = (false, eval e X.env) :: starEach es X.env := by rfl) (hpl : (backTo pos (starEach es X.env)).any (·.1) = false := by rfl) :
    FE X (.Call (.Name x p) (e :: es) [] pos) (fz (fCall n F fs)) := fe_of_me (me_call G hr hg hm hk hb ha hdb he hpl)
end
end PL
/-! ### part PL10 -/
namespace PL
open PySem PySem.Spec PyProof.Rows L2

/-! ### dict comprehensions -/
def putKD (kvs : List (Key × D)) (k : Key) (d : D) : List (Key × D) :=
  if (kvs.any fun kv => decide (kv.1 = k)) = true then kvs.map (fun kv => if kv.1 = k then (kv.1, d) else kv) else kvs ++ [(k, d)]
theorem repK_any {K : PySem.W.Frag} {H : Hp} {k : Key} : ∀ {kvs : List (Key × D)} {ws : List (Key × V)}, RepK K H kvs ws → (ws.any fun kv => decide (kv.1 = k)) = kvs.any fun kv => decide (kv.1 = k)
  | [], ws, h => by simp only [RepK] at h; subst h; rfl
  | (k', d) :: r, ws, h => by
    simp only [RepK] at h
    obtain ⟨v, s, rfl, _, h2⟩ := h
    rw [List.any_cons, List.any_cons, repK_any h2]
theorem repK_map {K : PySem.W.Frag} {H : Hp} {k : Key} {d : D} {v : V} (r : RepF K H d v) : ∀ {kvs : List (Key × D)} {ws : List (Key × V)}, RepK K H kvs ws → RepK K H (kvs.map fun kv => if kv.1 = k then (kv.1, d) else kv) (ws.map fun kv => if kv.1 = k then (kv.1, v) else kv)
  | [], ws, h => by simp only [RepK] at h; subst h; simp only [List.map_nil, RepK]
  | (k', d') :: rr, ws, h => by
    simp only [RepK] at h
    obtain ⟨v', s, rfl, h1, h2⟩ := h
    have ih := repK_map (k := k) r h2
    rw [List.map_cons, List.map_cons]
    by_cases e : k' = k
    · simp only [e, if_true, RepK]; exact ⟨v, _, rfl, r, ih⟩
    · simp only [e, if_false, RepK]; exact ⟨v', _, rfl, h1, ih⟩
theorem repK_app {K : PySem.W.Frag} {H : Hp} {k : Key} {d : D} {v : V} (r : RepF K H d v) : ∀ {kvs : List (Key × D)} {ws : List (Key × V)}, RepK K H kvs ws → RepK K H (kvs ++ [(k, d)]) (ws ++ [(k, v)])
  | [], ws, h => by simp only [RepK] at h; subst h; simp only [List.nil_append, RepK]; exact ⟨v, [], rfl, r, rfl⟩
  | (k', d') :: rr, ws, h => by
    simp only [RepK] at h
    obtain ⟨v', s, rfl, h1, h2⟩ := h
    rw [List.cons_append, List.cons_append]
    simp only [RepK]
    exact ⟨v', _, rfl, h1, repK_app r h2⟩
theorem repK_put {K : PySem.W.Frag} {H : Hp} {k : Key} {d : D} {v : V} {kvs : List (Key × D)} {ws : List (Key × V)} (r : RepF K H d v) (h : RepK K H kvs ws) : RepK K H (putKD kvs k d) (putK ws k v) := by
  unfold putKD putK
  rw [repK_any h]
  split
  · exact repK_map r h
  · exact repK_app r h
theorem repK_len {K : PySem.W.Frag} {H : Hp} : ∀ {kvs : List (Key × D)} {ws : List (Key × V)}, RepK K H kvs ws → ws.length = kvs.length
  | [], ws, h => by simp only [RepK] at h; subst h; rfl
  | (k', d) :: r, ws, h => by
    simp only [RepK] at h
    obtain ⟨v, s, rfl, _, h2⟩ := h
    rw [List.length_cons, List.length_cons, repK_len h2]
theorem putKD_len (kvs : List (Key × D)) (k : Key) (d : D) : (putKD kvs k d).length ≤ kvs.length + 1 := by
  unfold putKD
  split <;> simp
def dcGo (t : Tgt) (c : Rho → Option Bool) (ek ev : Rho → Option D) (ρ : Rho) : List D → List (Key × D) → Option (List (Key × D))
  | [], acc => some acc
  | d :: r, acc => (t d ρ).bind fun ρ1 => (c ρ1).bind fun b => if b = true then (ek ρ1).bind fun y => (keyD y).bind fun k => (ev ρ1).bind fun z => dcGo t c ek ev ρ r (putKD acc k z) else dcGo t c ek ev ρ r acc
def fDcomp (src : Rho → Option (List D)) (vs : List Nat) (t : Tgt) (c : Rho → Option Bool) (ek ev : Rho → Option D) : Rho → Option D := fun ρ => (src ρ).bind fun l => if small l.length then (dcGo t c ek ev (wipeR ρ vs) l []).map .dic else none
/-- the dict as it is made, to be locked -/
theorem tdc_of {K : PySem.W.Frag} {b : Bool} {src : Rho → Option (List D)} {is vs : List Nat} {t : Tgt} {c : Rho → Option Bool} {ek ev : Rho → Option D} (hv : ∀ i ∈ is, i ∈ vs) {σ : L2.St} {H : Hp} {Q : VK} {ρ : Rho} {kvs : List (Key × D)}
    (er : ER K H σ ρ) (hf : fDcomp src vs t c ek ev ρ = some (.dic kvs)) (q : ∀ a ws H', Same H H' → H a = none → H' a = some (.dK ws) → RepK K H' kvs ws → Q (.ref a) H') : tDc (iI K b src) (tT K is t) (tB K c) (tF K ek) (tF K ev) vs σ H Q := by
  obtain ⟨l, h1, h2⟩ := Option.bind_eq_some_iff.mp hf
  split at h2
  · rename_i hsm
    obtain ⟨out, h3, h3'⟩ := Option.map_eq_some_iff.mp h2
    cases h3'
    refine ⟨ρ, l, er, h1, fun J H1 S s1 w hS _ D hD => ?_⟩
    have hl := small_le hsm
    refine ⟨fun i m H2 => m = l.length - i ∧ i ≤ l.length ∧ ∃ acc ws, dcGo t c ek ev (wipeR ρ vs) (l.drop i) acc = some kvs ∧ H2 D = some (.dK ws) ∧ RepK K H2 acc ws ∧ acc.length ≤ i ∧ Same H1 H2,
      ⟨l.length, by simp, Nat.zero_le _, [], [], by simpa using h3, upd_same, by simp only [RepK], Nat.le_refl _, same_new hD⟩, ?_⟩
    rintro i m H2 ⟨rfl, hi, acc, ws, g1, g3, g4, g5, g6⟩
    have kS : ∀ a, S a → H2 a = H1 a := fun a ha => by
      obtain ⟨xs, hx⟩ := hS a ha
      rw [hx, g6 a _ hx]
    by_cases hlt : i < l.length
    · refine .inr ⟨w.go i H2 hlt (Ext.of g6) kS, _, fun H' n => ⟨l.length - (i + 1), by omega, rfl, hlt, n⟩, fun x H3 y => ?_⟩
      have hd : l[i]? = some l[i] := List.getElem?_eq_getElem hlt
      obtain ⟨s3, r3⟩ := w.yld i H2 x H3 l[i] hd (Ext.of g6) kS y
      have e1 : l.drop i = l[i] :: l.drop (i + 1) := List.drop_eq_getElem_cons hlt
      rw [e1] at g1
      simp only [dcGo] at g1
      obtain ⟨ρ1, t1, g1a⟩ := Option.bind_eq_some_iff.mp g1
      obtain ⟨bb, t2, g1b⟩ := Option.bind_eq_some_iff.mp g1a
      have er3 : ER K H3 (wipe σ vs) (wipeR ρ vs) := er_wipe (er.same ((s1.trans g6).trans s3)) vs
      refine ⟨wipeR ρ vs, l[i], ρ1, er3, r3, t1, fun σ4 H4 s4 st => ⟨?_, ?_⟩⟩
      · rw [st.wipe hv, wipe_wipe]
      refine ⟨ρ1, bb, st.er (er3.same s4), t2, fun H5 s5 => ?_⟩
      cases bb with
      | false =>
        simp only [Bool.false_eq_true, if_false] at g1b ⊢
        have s25 := (s3.trans s4).trans s5
        exact ⟨acc, ws, g1b, s25 _ _ g3, RepK.ext (Ext.of s25) _ _ g4, by omega, g6.trans s25⟩
      | true =>
        simp only [if_true] at g1b ⊢
        obtain ⟨y1, t3, g1c⟩ := Option.bind_eq_some_iff.mp g1b
        obtain ⟨k, t4, g1d⟩ := Option.bind_eq_some_iff.mp g1c
        obtain ⟨z1, t5, g1e⟩ := Option.bind_eq_some_iff.mp g1d
        have er5 := (st.er (er3.same s4)).same s5
        refine ⟨ρ1, y1, er5, t3, fun v H6 s6 r6 => ⟨ρ1, z1, er5.same s6, t5, fun u H7 s7 r7 => ?_⟩⟩
        have s27 := (((s3.trans s4).trans s5).trans s6).trans s7
        have g37 := s27 _ _ g3
        have ext : Ext H7 (upd H7 D (.dK (putK ws k u))) := Ext.updO (.inl (by rw [g37]; trivial))
        have lw := repK_len g4
        refine ⟨ws, k, keyD_rep (RepW.of r6) t4, g37, by omega, putKD acc k z1, putK ws k u, g1e, upd_same, ?_, ?_, same_new2 (g6.trans s27) hD⟩
        · exact RepK.ext ext _ _ (repK_put r7 (RepK.ext (Ext.of s27) _ _ g4))
        · have := putKD_len acc k z1; omega
    · have e : i = l.length := by omega
      subst e
      rw [List.drop_length] at g1
      simp only [dcGo] at g1
      cases g1
      exact .inl ⟨w.stop H2 (Ext.of g6) kS, q D ws H2 (s1.trans g6) (s1.free hD) g3 g4⟩
  · cases h2
theorem fDcomp_dic {src : Rho → Option (List D)} {vs : List Nat} {t : Tgt} {c : Rho → Option Bool} {ek ev : Rho → Option D} {ρ : Rho} {d : D} (h : fDcomp src vs t c ek ev ρ = some d) : ∃ kvs, d = .dic kvs := by
  obtain ⟨l, h1, h2⟩ := Option.bind_eq_some_iff.mp h
  split at h2
  · obtain ⟨out, _, h3⟩ := Option.map_eq_some_iff.mp h2
    exact ⟨out, h3.symm⟩
  · cases h2
section
variable {X : Cx}
/-- name = {..} on one line, the name a local (as ps_setLc) -/
theorem se_setDc {H0 : Hp} {y : Str} {py : Pos} {kx vx tg iter : Expr} {ifs : List Expr} {scope : Scope} {own : List (Str × Nat)} {pos spos : Pos} {b : Bool} {src : Rho → Option (List D)} {is vs : List Nat} {t : Tgt} {c : Rho → Option Bool} {ek ev : Rho → Option D} (i : Nat) (hc : X.calm = true) (hN : X.N.Nodup) (hy : X.N[i]? = some y) (hyl : X.env.scope.names.lookup y = some .local)
    (hsw : swapsWith (.DictComp kx vx [⟨tg, iter, ifs, 0⟩] scope pos) (some (.Name y py)) spos.line X.env = pure true) (hi : IE X tg iter b src) (ok : BlkOk X.N X.env.scope scope own)
    (hg : ∀ (s : Shared) (H : Hp) (C : Addr) (cl : List (Str × Addr)) (fp : List Addr), GE (X.blk s H scope (compEnvC scope cl C X.env) fp) tg is t) (ht : ∀ (s : Shared) (H : Hp) (C : Addr) (cl : List (Str × Addr)) (fp : List Addr), IFs (X.blk s H scope (compEnvC scope cl C X.env) fp) ifs c)
    (hk : ∀ (s : Shared) (H : Hp) (C : Addr) (cl : List (Str × Addr)) (fp : List Addr), FE (X.blk s H scope (compEnvC scope cl C X.env) fp) kx ek)
    (he : ∀ (s : Shared) (H : Hp) (C : Addr) (cl : List (Str × Addr)) (fp : List Addr), FE (X.blk s H scope (compEnvC scope cl C X.env) fp) vx ev) (hvs : own.map (·.2) = vs := by rfl) (hv : ∀ i ∈ is, i ∈ vs := by decide) (hs : ∀ x, foldedSetIterable iter X.env x = pure x := by intro _; rfl) :
    SE X H0 (.Assign [.Name y py] (.DictComp kx vx [⟨tg, iter, ifs, 0⟩] scope pos) spos) (gSet i (fDcomp src vs t c ek ev)) := by
  subst hvs
  refine ⟨fun pins s σ H E I ⟨ρ, fl, er, hf, kk⟩ => ?_⟩
  obtain ⟨d, hd, rfl⟩ := Option.map_eq_some_iff.mp hf
  obtain ⟨kvs, rfl⟩ := fDcomp_dic hd
  rw [exec_Assign_Name_used _ _ _ _ hsw]
  refine wpAny_bind (wpAny_standAt (wpAny_bind ?_))
  show wpAny _ X.A (do let _ ← comprehension (.DictComp kx vx [⟨tg, iter, ifs, 0⟩] scope pos) scope X.env (firstIterPos [⟨tg, iter, ifs, 0⟩] pos) newDict false (eval iter X.env) (some (assign (.Name y py) X.env))) _ _ s
  have h : tDc (iI X.K b src) (tT X.K is t) (tB X.K c) (tF X.K ek) (tF X.K ev) (own.map (·.2)) σ H (fun v H' => ∃ a ws, v = .ref a ∧ Same H H' ∧ H a = none ∧ H' a = some (.dK ws) ∧ RepK X.K H' kvs ws) :=
    tdc_of hv er.toER hd fun a ws H' s n g r => ⟨a, ws, rfl, s, n, g, r⟩
  refine wpAny_bind (thn (dc_core (g := tT X.K is t) (tt := tB X.K c) (tk := tF X.K ek) (tv := tF X.K ev) (Qf := fun _ s' => SP X pins E .next s') hc hN I hi ok hg ht hk he hs h fun L C s' m H' I' q hn f => ?_) fun _ s' hq => wpAny_pure (wpAny_pure hq))
  show wpAny _ _ (assign (.Name y py) X.env (.ref L)) _ _ _
  refine wpAny_assign_Name (store_ok2 (v := V.ref L) I' hN hy (.inl hyl) rfl (fun s2 I2 ⟨a, sb, ha⟩ => ?_) (.inr hyl))
  obtain ⟨f0, f1, f2, f3, f4, f5⟩ := f
  have haC : C ≠ a := by
    rcases ha with z | z
    · rw [z]; exact f1
    · exact fun e => f4 y a z e.symm
  refine ⟨m, hn.sameBut sb haC, fun h3 sb3 => ?_⟩
  have I3 := I2.turned (t' := s2.toks) (h' := h3) (fun b o hb e => (sb3.2 b hb).trans e) f0 f1 f3 f4 f5
  obtain ⟨a', ws, e1, sm, nn, gg, rr⟩ := q
  cases e1
  obtain ⟨od, I4⟩ := I3.lock gg trivial
  have ext : Ext H' (upd H' L (.frz od (.dK ws))) := Ext.updO (.inl (by rw [gg]; trivial))
  have s2' : Same H (upd H' L (.frz od (.dK ws))) := same_new2 sm nn
  refine ⟨_, _, I4, kk _ _ (Ext.of s2') (er.set s2' ?_)⟩
  show RepF _ _ (.dic kvs) _
  simp only [RepF]
  exact ⟨L, ws, od, rfl, upd_same, RepK.ext ext _ _ rr⟩

/-! ### isinstance -/
def tyD : D → Option String
  | .non => some "NoneType"
  | .bl _ => some "bool"
  | .int _ => some "int"
  | .str _ => some "str"
  | .tup _ => some "tuple"
  | .lst _ => some "list"
  | _ => none
theorem tyX_of {K : PySem.W.Frag} {H : Hp} {d : D} {v : V} {n : String} (r : RepW K H d v) (h : tyD d = some n) : TyX K H v (.type n) := by
  cases d <;> simp only [tyD, reduceCtorEq] at h <;> cases h
  · rw [repW_non r]; exact .base .non
  · rw [repW_bl r]; exact .base (.bl _)
  · rw [repW_int r]; exact .base (.int _)
  · rw [repW_str r]; exact .base (.str _)
  · obtain ⟨a, vs, rfl, ha, _⟩ := repW_tup r
    rcases ha with (ha | ⟨o, ha⟩) | ⟨o, its, n, hk, hc, _⟩
    · exact .base (.tup ha)
    · exact .fTuple ha
    · exact .kTuple hk hc
  · obtain ⟨a, vs, rfl, ha, _⟩ := repW_lst r
    rcases ha with ha | ⟨o, ha⟩
    · exact .base (.lst ha)
    · exact .base (.frz ha)
/-- isinstance(x, T), T one of the six -/
def isT (T : String) : D → Option D := fun d => (tyD d).bind fun n => (kitB n T).map .bl
theorem fe_isi {x : Str} {T : String} {a : Expr} {fa : Rho → Option D} {p p2 pos : Pos} (hg : Gl X "isinstance") (hm : X.mg "isinstance" = none) (hg2 : Gl X x) (hm2 : X.mg x = none) (hv : bootBuiltins x = some (.type T)) (ha : WE X a fa)
    (hn : x ≠ "__name__" := by decide) (hdb : (x == ("__debug__" : Str)) = false := by decide)
    (hs1 : starEach [a, .Name x p2] X.env = (false, eval a X.env) :: starEach [.Name x p2] X.env := by rfl) (hs2 : starEach [.Name x p2] X.env = (false, eval (.Name x p2) X.env) :: starEach [] X.env := by rfl) (hpl : (backTo pos (starEach [.Name x p2] X.env)).any (·.1) = false := by rfl) :
    FE X (.Call (.Name "isinstance" p) [a, .Name x p2] [] pos) (u1 (isT T) fa) :=
  PE.weak (pe_callB call_isi hg hm (by decide +kernel) (pa_cons ha (pa_cons (pe_bltn (v := .ty T) hg2 hm2 hv rfl hn hdb) pa_nil hs2) hs1) (by decide) (by decide) hs1 hpl) fun σ H Q ⟨ρ, d, er, hf, q⟩ => by
    obtain ⟨y, h1, h2⟩ := Option.bind_eq_some_iff.mp hf
    obtain ⟨n, h3, h4⟩ := Option.bind_eq_some_iff.mp h2
    obtain ⟨b, h5, rfl⟩ := Option.map_eq_some_iff.mp h4
    exact ⟨ρ, y, er, h1, fun v H1 s1 r1 => ⟨v, .ty T, _, _, b, rfl, .ty T, tyX_of r1 h3, kit_ty h5, q _ H1 s1 repF_bl⟩⟩
end
end PL
/-! ### part PL11 -/
namespace PL
open PySem PySem.Spec PyProof.Rows L2

/-! ### short words for printed proofs -/
def visB (sc : Scope) (x : Str) : Bool := match sc.names.lookup x with
  | some .local => true
  | some .cell => true
  | some .free => true
  | _ => false
def locB (sc : Scope) (x : Str) : Bool := match sc.names.lookup x with
  | some .local => true
  | some .cell => true
  | _ => false
theorem vis_of {sc : Scope} {x : Str} (h : visB sc x = true) : Vis sc x := by
  unfold visB at h
  split at h
  · exact .inl (by assumption)
  · exact .inr (.inl (by assumption))
  · exact .inr (.inr (by assumption))
  · cases h
theorem loc_of {sc : Scope} {x : Str} (h : locB sc x = true) : Loc sc x := by
  unfold locB at h
  split at h
  · exact .inl (by assumption)
  · exact .inr (by assumption)
  · cases h
theorem room65 {k : Nat} {A : Around} (h : Room k A) : A.units + 65 < cLine := by have := h.un; omega
section
variable {X : Cx} {pos : Pos} {H0 : Hp} {e : Expr} {f : Rho → Option D}
theorem fv (i : Nat) {x : Str} (hN : X.N[i]? = some x := by rfl) (hv : visB X.env.scope x = true := by rfl) (hd : (x == ("__debug__" : Str)) = false := by rfl) (hcd : (x == ("__classdict__" : Str)) = false := by rfl) : FE X (.Name x pos) (fVar i) := fe_var i hN (vis_of hv) hd hcd
theorem wv (i : Nat) {x : Str} (hN : X.N[i]? = some x := by rfl) (hv : visB X.env.scope x = true := by rfl) (hd : (x == ("__debug__" : Str)) = false := by rfl) (hcd : (x == ("__classdict__" : Str)) = false := by rfl) : WE X (.Name x pos) (fVarW i) := we_var i hN (vis_of hv) hd hcd
/-- a target in a def's body; in a comprehension's block -/
theorem gn (i : Nat) {x : Str} (hN : X.N.Nodup) (hf : X.fn x = true := by rfl) (hi : X.N[i]? = some x := by rfl) (hx : locB X.env.scope x = true := by rfl) : GE X (.Name x pos) [i] (tName i) := ge_name i hN hi (loc_of hx) (.inl hf)
theorem gb (i : Nat) {x : Str} (hN : X.N.Nodup) (hi : X.N[i]? = some x := by rfl) (hx : X.env.scope.names.lookup x = some .local := by rfl) : GE X (.Name x pos) [i] (tName i) := ge_name i hN hi (.inl hx) (.inr hx)
theorem ss {x : Str} {pos' : Pos} (i : Nat) (hN : X.N.Nodup) (he : ME X e f) (hf : X.fn x = true := by rfl) (hi : X.N[i]? = some x := by rfl) (hx : locB X.env.scope x = true := by rfl)
    (hs : swapsWith e (some (.Name x pos')) pos.line X.env = pure false := by rfl) : SE X H0 (.Assign [.Name x pos'] e pos) (gSet i f) := se_set i hN hi (loc_of hx) he (.inl hf) hs
theorem sa {x : Str} {pos' : Pos} (i : Nat) (hN : X.N.Nodup) (he : FE X e f) (hf : X.fn x = true := by rfl) (hi : X.N[i]? = some x := by rfl) (hx : locB X.env.scope x = true := by rfl) :
    SE X H0 (.AugAssign (.Name x pos') .Add e pos) (gAug i f) := se_aug i hN hi (loc_of hx) he (.inl hf)
end
/-- name = [..] on one line, the list left alone from then on -/
theorem se_setLcF {X : Cx} {H0 : Hp} {y : Str} {py : Pos} {elt tg iter : Expr} {ifs : List Expr} {scope : Scope} {own : List (Str × Nat)} {pos spos : Pos} {b : Bool} {src : Rho → Option (List D)} {is vs : List Nat} {t : Tgt} {c : Rho → Option Bool} {e : Rho → Option D} (i : Nat) (hc : X.calm = true) (hN : X.N.Nodup) (hy : X.N[i]? = some y) (hyl : X.env.scope.names.lookup y = some .local)
    (hsw : swapsWith (.ListComp elt [⟨tg, iter, ifs, 0⟩] scope pos) (some (.Name y py)) spos.line X.env = pure true) (hi : IE X tg iter b src) (ok : BlkOk X.N X.env.scope scope own)
    (hg : ∀ (s : Shared) (H : Hp) (C : Addr) (cl : List (Str × Addr)) (fp : List Addr), GE (X.blk s H scope (compEnvC scope cl C X.env) fp) tg is t) (ht : ∀ (s : Shared) (H : Hp) (C : Addr) (cl : List (Str × Addr)) (fp : List Addr), IFs (X.blk s H scope (compEnvC scope cl C X.env) fp) ifs c)
    (he : ∀ (s : Shared) (H : Hp) (C : Addr) (cl : List (Str × Addr)) (fp : List Addr), FE (X.blk s H scope (compEnvC scope cl C X.env) fp) elt e) (hvs : own.map (·.2) = vs := by rfl) (hv : ∀ i ∈ is, i ∈ vs := by decide) (hs : ∀ x, foldedSetIterable iter X.env x = pure x := by intro _; rfl) :
    SE X H0 (.Assign [.Name y py] (.ListComp elt [⟨tg, iter, ifs, 0⟩] scope pos) spos) (gSet i (fz (fComp src vs t c e))) := by
  subst hvs
  refine ⟨fun pins s σ H E I ⟨ρ, fl, er, hf, kk⟩ => ?_⟩
  obtain ⟨d', hd', rfl⟩ := Option.map_eq_some_iff.mp hf
  obtain ⟨d, hd, rfl⟩ := Option.map_eq_some_iff.mp hd'
  rw [exec_Assign_Name_used _ _ _ _ hsw]
  refine wpAny_bind (wpAny_standAt (wpAny_bind ?_))
  show wpAny _ X.A (do let _ ← comprehension (.ListComp elt [⟨tg, iter, ifs, 0⟩] scope pos) scope X.env (firstIterPos [⟨tg, iter, ifs, 0⟩] pos) (newList []) false (eval iter X.env) (some (assign (.Name y py) X.env))) _ _ s
  have h : tLc (iI X.K b src) (tT X.K is t) (tB X.K c) (tF X.K e) (own.map (·.2)) σ H (fun v H' => Same H H' ∧ RepM X.K H H' d v) :=
    tlc_of hv ⟨ρ, d, er.toER, hd, fun v H' s r => ⟨s, r⟩⟩
  refine wpAny_bind (thn (lc_core (g := tT X.K is t) (tt := tB X.K c) (te := tF X.K e) (Qf := fun _ s' => SP X pins E .next s') hc hN I hi ok hg ht he hs h fun L C s' m H' I' q hn f => ?_) fun _ s' hq => wpAny_pure (wpAny_pure hq))
  show wpAny _ _ (assign (.Name y py) X.env (.ref L)) _ _ _
  refine wpAny_assign_Name (store_ok2 (v := V.ref L) I' hN hy (.inl hyl) rfl (fun s2 I2 ⟨a, sb, ha⟩ => ?_) (.inr hyl))
  obtain ⟨f0, f1, f2, f3, f4, f5⟩ := f
  have haC : C ≠ a := by
    rcases ha with z | z
    · rw [z]; exact f1
    · exact fun e => f4 y a z e.symm
  refine ⟨m, hn.sameBut sb haC, fun h3 sb3 => ?_⟩
  have I3 := I2.turned (t' := s2.toks) (h' := h3) (fun b o hb e => (sb3.2 b hb).trans e) f0 f1 f3 f4 f5
  obtain ⟨sm, r⟩ := q
  obtain ⟨l, h1, h2⟩ := Option.bind_eq_some_iff.mp hd
  split at h2
  · obtain ⟨out, h3, rfl⟩ := Option.map_eq_some_iff.mp h2
    obtain ⟨a', ws, e1, nn, gg, rr⟩ := r
    cases e1
    obtain ⟨od, I4⟩ := I3.lock gg trivial
    have ext : Ext H' (upd H' L (.frz od (.lst ws))) := Ext.updO (.inl (by rw [gg]; trivial))
    have s2' : Same H (upd H' L (.frz od (.lst ws))) := same_new2 sm nn
    refine ⟨_, _, I4, kk _ _ (Ext.of s2') (er.set s2' ?_)⟩
    show RepF _ _ (.lst out) _
    simp only [RepF]
    exact ⟨L, ws, od, rfl, upd_same, rr.ext ext⟩
  · cases h2
end PL
/-! ### part PL12 -/
namespace PL
open PySem PySem.Spec PyProof.Rows L2
/-- the script, at the law's entry -/
theorem fzl_of_only {K : PySem.W.Frag} {H : Hp} {a : Addr} {xs : List V} (h : Only H) (s : SqL K H a xs) : FzL K H a xs := by
  rcases s with (s | ⟨o, s⟩) | s
  · rcases h a with n | ⟨o, ys, n⟩
    · rw [s] at n; cases n
    · rw [s] at n; cases n
  · exact .inl ⟨o, s⟩
  · exact .inr s
end PL
/-! ### part PL13 -/
namespace PL
open PySem PySem.Spec PyProof.Rows L2

/-! ### generators: what is out so far stands beside the slots -/
abbrev GFl := Rho → List D → Option (Rho × List D)
def tGn (K : PySem.W.Frag) (H0 : Hp) (g : GFl) : TGn := fun E ys σ H => ∃ ρ ds ρ' ds', ERS K H0 H σ ρ ∧ RepL K H ds ys ∧ g ρ ds = some (ρ', ds') ∧ ∀ ys' σ' H', Ext H H' → ERS K H0 H' σ' ρ' → RepL K H' ds' ys' → E.nx ys' σ' H'
def GSE (X : Cx) (H0 : Hp) (st : Stmt) (g : GFl) : Prop := GS X st (tGn X.K H0 g)
def GSEs (X : Cx) (H0 : Hp) (st : List Stmt) (g : GFl) : Prop := GSs X st (tGn X.K H0 g)
theorem GS.weak {X : Cx} {st : Stmt} {t t' : TGn} (h : GS X st t) (k : ∀ E ys σ H, t' E ys σ H → t E ys σ H) : GS X st t' :=
  ⟨fun A S ip R n ys s₀ c fs K J gd lv s σ H E g hn kk hI ht => h.run A S ip R n ys s₀ c fs K J gd lv s σ H E g hn kk hI (k _ _ _ _ ht)⟩
theorem GSs.weak {X : Cx} {st : List Stmt} {t t' : TGn} (h : GSs X st t) (k : ∀ E ys σ H, t' E ys σ H → t E ys σ H) : GSs X st t' :=
  ⟨fun A S ip R n ys s₀ c fs K J gd lv s σ H E g hn kk hI ht => h.run A S ip R n ys s₀ c fs K J gd lv s σ H E g hn kk hI (k _ _ _ _ ht)⟩
def hNil : GFl := fun ρ ds => some (ρ, ds)
def hSeq (g1 g2 : GFl) : GFl := fun ρ ds => (g1 ρ ds).bind fun p => g2 p.1 p.2
def hPl (g : Rho → Option Fl) : GFl := fun ρ ds => (g ρ).bind fun fl => match fl with
  | .nx ρ' => some (ρ', ds)
  | _ => none
def hYield (f : Rho → Option D) : GFl := fun ρ ds => (f ρ).bind fun d => if small (ds.length + 1) = true then some (ρ, ds ++ [d]) else none
def hWhileGo (c : Rho → Option Bool) (b : GFl) : Nat → GFl
  | 0, _, _ => none
  | n + 1, ρ, ds => (c ρ).bind fun k => if k = true then (b ρ ds).bind fun p => hWhileGo c b n p.1 p.2 else some (ρ, ds)
def hWhile (c : Rho → Option Bool) (b : GFl) : GFl := hWhileGo c b FU
section
variable {X : Cx} {H0 : Hp} {st : Stmt} {sts : List Stmt} {g g1 g2 : GFl} {pos yp : Pos}
theorem hs_nil : GSEs X H0 [] hNil := GSs.weak gss_nil fun E ys σ H ⟨ρ, ds, ρ', ds', er, r, hf, k⟩ => by cases hf; exact k ys σ H (Ext.refl H) er r
theorem hs_cons (h1 : GSE X H0 st g1) (h2 : GSEs X H0 sts g2) : GSEs X H0 (st :: sts) (hSeq g1 g2) := GSs.weak (gss_cons h1 h2) fun E ys σ H ⟨ρ, ds, ρ', ds', er, r, hf, k⟩ => by
  obtain ⟨⟨ρ1, ds1⟩, h3, h4⟩ := Option.bind_eq_some_iff.mp hf
  exact ⟨ρ, ds, ρ1, ds1, er, r, h3, fun ys1 σ1 H1 e1 er1 r1 => ⟨ρ1, ds1, ρ', ds', er1, r1, h4, fun ys2 σ2 H2 e2 er2 r2 => k ys2 σ2 H2 (e1.trans e2) er2 r2⟩⟩
theorem h_pl {gp : Rho → Option Fl} (h : SE X H0 st gp) : GSE X H0 st (hPl gp) := GS.weak (gs_ps h) fun E ys σ H ⟨ρ, ds, ρ', ds', er, r, hf, k⟩ => by
  obtain ⟨fl, h3, h4⟩ := Option.bind_eq_some_iff.mp hf
  cases fl with
  | nx ρ1 =>
    cases h4
    exact ⟨ρ, _, er, h3, fun σ1 H1 e1 er1 => k ys σ1 H1 e1 er1 (RepL.ext e1 _ _ r)⟩
  | rt d => cases h4
  | bk d => cases h4
  | ct d => cases h4
theorem h_yield {e : Expr} {f : Rho → Option D} (h : FE X e f) (hco : X.env.scope.isCoroutine = false := by rfl) (hi : interactive X.env = false := by rfl) : GSE X H0 (.Expr (.Yield (some e) yp) pos) (hYield f) :=
  GS.weak (gs_yield h hco hi) fun E ys σ H ⟨ρ, ds, ρ', ds', er, r, hf, k⟩ => by
    obtain ⟨d, h3, h4⟩ := Option.bind_eq_some_iff.mp hf
    split at h4
    · rename_i hsm
      cases h4
      have hl := r.length
      have := small_le hsm
      refine ⟨by omega, ρ, d, er.toER, h3, fun v H1 s1 r1 => ?_⟩
      exact k _ σ H1 (Ext.of s1) (er.same s1) ((RepL.ext (Ext.of s1) _ _ r).append (RepL.one r1))
    · cases h4
theorem h_while {cx : Expr} {c : Rho → Option Bool} {body : List Stmt} (hp : PassesOwn (model X.prog X.w) X.A X.env X.xe) (hc : BE X cx c) (hb : GSEs X H0 body g) : GSE X H0 (.While cx body [] pos) (hWhile c g) :=
  GS.weak (gs_while hp hc hb) fun E ys σ H ⟨ρ, ds, ρ', ds', er, r, hf, k⟩ => by
    refine ⟨fun m ys2 σ2 H2 => ∃ ρ2 ds2, ERS X.K H0 H2 σ2 ρ2 ∧ RepL X.K H2 ds2 ys2 ∧ Ext H H2 ∧ hWhileGo c g m ρ2 ds2 = some (ρ', ds'), ⟨FU, ρ, ds, er, r, Ext.refl _, hf⟩, ?_⟩
    rintro m ys2 σ2 H2 ⟨ρ2, ds2, er2, r2, ext, hgo⟩
    cases m with
    | zero => simp [hWhileGo] at hgo
    | succ m =>
      simp only [hWhileGo] at hgo
      obtain ⟨b, h3, h4⟩ := Option.bind_eq_some_iff.mp hgo
      refine ⟨ρ2, b, er2.toER, h3, fun H3 s3 => ?_⟩
      cases b with
      | false =>
        simp only [Bool.false_eq_true, if_false] at h4 ⊢
        cases h4
        exact k ys2 σ2 H3 (ext.trans (Ext.of s3)) (er2.same s3) (RepL.ext (Ext.of s3) _ _ r2)
      | true =>
        simp only [if_true] at h4 ⊢
        obtain ⟨⟨ρ5, ds5⟩, t2, h5⟩ := Option.bind_eq_some_iff.mp h4
        exact ⟨_, fun ys' σ' H' n => ⟨m, Nat.lt_succ_self m, n⟩, ρ2, ds2, ρ5, ds5, er2.same s3, RepL.ext (Ext.of s3) _ _ r2, t2, fun ys5 σ5 H5 e5 er5 r5 => ⟨ρ5, ds5, er5, r5, (ext.trans (Ext.of s3)).trans e5, h5⟩⟩
end
/-- what a generator def promises: the list of what it hands out -/
def spG (n : Nat) (K : PySem.W.Frag) (F : List D → Option (List D)) : SpG := fun vs H cont _ => ∃ ds out, ds.length = n ∧ RepL K H ds vs ∧ F ds = some out ∧ ∀ ys H', Same H H' → RepL K H' out ys → cont ys H'
def runG (N : Nat) (g : GFl) : List D → Option (List D) := fun ds => (g (ds.map some ++ List.replicate (N - ds.length) none) []).map (·.2)
theorem gen_pure {P : Program} {w : World} {K : PySem.W.Frag} {mg : Str → Option Value} {base : Heap} {x qual : Str} {st : Stmt} {f : Addr} {fd : FuncData} {N ps : List Str} {k n : Nat} {g : GFl} (F : Fun K x qual st f fd) (S : GScope N ps (defScope st)) (hn : ps.length = n)
    (h : ∀ (cdv : Value) (A : Around) (outer : List Env) (s : Shared) (H : Hp) (E : XK) (pn : List (Addr × Obj)), Room k (A.deeper (envOfC qual (defScope st) s.heap.objs.size f cdv)) →
      GSEs (gcxOf P w K mg base N qual (defScope st) f cdv A outer s H E pn) H (defBody st) g) : GFn P w K mg base (k + 1) f fd ps (spG n K (runG N.length g)) := by
  obtain ⟨oc, od, kV, doc, pm, an, cdv, ct, osl, rfl, lk, hcd⟩ := F.ex
  refine gfn_of lk hcd S (fun vs H Q E ⟨ds, d, hl, r, _⟩ => by rw [r.length, hl, hn]) fun A outer s H vs Q E pn hr hsp => ⟨_, h cdv A outer s H E pn hr, ?_⟩
  obtain ⟨ds, out, hl, r, hF, q⟩ := hsp
  unfold runG at hF
  obtain ⟨⟨ρ', ds'⟩, h1, h2⟩ := Option.map_eq_some_iff.mp hF
  cases h2
  exact ⟨_, [], ρ', _, ers_start r, (by simp only [RepL]), h1, fun ys σ H' e er r' => q ys H' er.sm r'⟩
/-- list(f(..)) of a generator def -/
def fGen (n : Nat) (F : List D → Option (List D)) (fs : Rho → Option (List D)) : Rho → Option D := fun ρ => (fs ρ).bind fun ds => if ds.length = n then (F ds).map .opn else none
theorem me_gen {X : Cx} {e : Expr} {es : List Expr} {pos p p2 pos2 : Pos} {x : Str} {k n : Nat} {f : Addr} {fd : FuncData} {ps : List Str} {F : List D → Option (List D)} {fs : Rho → Option (List D)}
    (G : GFn X.prog X.w X.K X.mg X.base k f fd ps (spG n X.K F)) (hr : Room (k + 3) X.A) (hr0 : Room k X.A) (hgl : Gl X "list") (hml : X.mg "list" = none) (hg : Gl X x) (hm : X.mg x = some (.ref f)) (hk : PySem.W.keepIn X.K (.ref f) = true) (hb : Binds X.K fd ps [])
    (ha : AE X (e :: es) fs) (hdb : (x == ("__debug__" : Str)) = false := by decide) (he : starEach (e :: es) X.env = (false, eval e X.env) :: starEach es X.env := by rfl) (hpl : (backTo pos (starEach es X.env)).any (·.1) = false := by rfl)
    (he2 : starEach [.Call (.Name x p) (e :: es) [] pos] X.env = (false, eval (.Call (.Name x p) (e :: es) [] pos) X.env) :: starEach [] X.env := by rfl) :
    ME X (.Call (.Name "list" p2) [.Call (.Name x p) (e :: es) [] pos] [] pos2) (fGen n F fs) := by
  have h1 := pgen_call (p := p) (E := E0) G hr0 hg hm hk hb .nil ha hdb he hpl
  have h2 := pe_listG (p := p2) (pos := pos2) (nm := "list") h1 (fun pins σ H s e s' I c => by obtain ⟨a, B, H', cls, d, _, _, _, _, _, _, _, z⟩ := c; exact z.elim) (fun cls d H' z => z.elim) hr hgl hml (by decide +kernel) (by decide) (by decide) he2
  refine PE.weak h2 fun σ H Q ⟨ρ, d, er, hf, q⟩ => ?_
  obtain ⟨ds, h3, h4⟩ := Option.bind_eq_some_iff.mp hf
  split at h4
  · rename_i hl
    obtain ⟨out, h5, rfl⟩ := Option.map_eq_some_iff.mp h4
    refine ⟨ρ, ds, er, h3, fun vs H1 s1 r1 => ?_⟩
    show spG n X.K F (vs ++ []) H1 _ E0
    rw [List.append_nil]
    refine ⟨ds, out, hl, r1, h5, fun ys H2 s2 r2 p hp => ?_⟩
    have s3 := same_new (o := .lst ys) hp
    have rm : RepM X.K H2 (upd H2 p (.lst ys)) (.opn out) (.ref p) := ⟨p, ys, rfl, hp, upd_same, RepL.ext (Ext.of s3) _ _ r2⟩
    exact q _ _ ((s1.trans s2).trans s3) (rm.back (s1.trans s2))
  · cases h4
end PL
/-! ### part PL14 -/
namespace SrtO
open PySem PySem.Calls PyProof.Rows Srt
section
variable {prog : Program} {w : World} {A : Around} {E : Value → Shared → Prop} {s : Shared}
theorem collect_tupX {l : Addr} {vs : List Value} {Q : List Value → Shared → Prop} (hl : s.heap.IsTuple l vs.toArray)
    (h : Q vs { s with heap := (s.heap.push (seqObj "list" #[] 0)).update s.heap.objs.size (Obj.mapSeq (· ++ vs.toArray)) }) (hszX : vs.length ≤ sizeLine := by size_fits) :
    wpAny (model prog w) A (collect (.ref l)) Q E s := by
  skip; obtain ⟨o, ho, hc, n, hd⟩ := id hl
  unfold collect
  skip; refine wpAny_bind (wpAny_runValue (codeAny_builtin entry_proto_collect' ?_))
  skip; show wpAny _ _ (do again (.builtin "list.__iadd__" ⟨[← newList [], .ref l], []⟩)) _ _ s
  skip; refine wpAny_bind (wpAny_newList (wpAny_pure ⟨Code.quiet_builtin _ (by decide +kernel), codeAny_builtin entry_list_iadd' ?_⟩))
  skip; show wpAny _ _ (Builtin.List.listExtendWith (.ref s.heap.objs.size) (.ref l) (.ref s.heap.objs.size)) _ _ { s with heap := s.heap.push (seqObj "list" #[] 0) }
  skip; unfold Builtin.List.listExtendWith
  skip; have hoX' : (s.heap.push (seqObj "list" #[] 0)).get? l = some o := Heap.get?_push_of_some _ ho
  skip; refine wpAny_bind (wpAny_typeOf (T := "tuple") ⟨o, hoX', hc⟩ ?_)
  skip; have ht : (Value.type "tuple" == Value.type "tuple") = true := by rfl
  skip; rw [if_pos (by rw [ht]; simp)]
  skip; refine wpAny_bind (listItems_at hoX' hd ?_)
  skip; refine wpAny_bind (listItems_at (xs := #[]) (n := 0) (Heap.get?_push_size _ rfl) rfl ?_)
  rw [if_neg (by simp)]
  skip; refine wpAny_bind (listUpdate_at (xs := #[]) (n := 0) (Heap.get?_push_size _ rfl) rfl ?_ (Nat.zero_le _) (by show (#[] ++ vs.toArray).size ≤ sizeLine + 1; simp only [Array.size_append, List.size_toArray, List.length_nil]; omega))
  refine wpAny_pure ?_
  skip; show wpAny (model prog w) A (do
      let o ← load s.heap.objs.size
      match o.data with
      | .seq xs _ => pure xs.toList
      | _ => unsupported "internal:collect") Q E { s with heap := (s.heap.push (seqObj "list" #[] 0)).update s.heap.objs.size (Obj.mapSeq (· ++ vs.toArray)) }
  skip; refine wpAny_bind (wpAny_load (get?_update_seq (Heap.get?_push_size _ rfl) _) ?_)
  skip; show wpAny _ _ (pure ((#[] : Array Value) ++ vs.toArray).toList) Q E _
  skip; rw [show ((#[] : Array Value) ++ vs.toArray).toList = vs by simp]
  exact wpAny_pure h

theorem sorted_tupX {l : Addr} {vs : List Value} {ltv : Value → Value → Bool} {Q : Value → Shared → Prop} (O : Swo ltv) (hl : s.heap.IsTuple l vs.toArray) (hz : vs.length ≤ sizeLine)
    (hS : 2 ≤ vs.length → ∀ (h₁ : Heap) (a : Addr), h₁.get? a = some (seqObj "list" vs.toArray 0) → (∀ b o, s.heap.get? b = some o → b ≠ a ∧ h₁.get? b = some o) → SortableO prog w A.in1.in1 { s with heap := h₁ } a vs ltv)
    (h : ∀ out : List Value, Srtd ltv out → Stb ltv out vs → Q (.ref (s.heap.objs.size + 1)) { s with heap := sortedAll s.heap vs out.toArray }) :
    wpAny (model prog w) A (call (.builtin "sorted") [.ref l]) Q E s := by
  skip; refine Calls.call_function_entry kind_sorted plain_sorted entry_sorted (args_sorted1 _) ?_
  unfold Builtin.«sorted»
  skip; refine wpAny_bind (m := checkCount "sorted" 1 1 _) (wpAny_pure ?_)
  skip; refine wpAny_bind (collect_tupX hl ?_ hz)
  skip; refine wpAny_bind (wpAny_newList ?_ hz)
  skip; have hszX : ((s.heap.push (seqObj "list" #[] 0)).update s.heap.objs.size (Obj.mapSeq (· ++ vs.toArray))).objs.size = s.heap.objs.size + 1 := by
    skip; rw [Heap.size_update, size_push']
  skip; have hoLX : (((s.heap.push (seqObj "list" #[] 0)).update s.heap.objs.size (Obj.mapSeq (· ++ vs.toArray))).push (seqObj "list" vs.toArray 0)).get? (s.heap.objs.size + 1) = some (seqObj "list" vs.toArray 0) := by
    skip; rw [← hszX]; exact Heap.get?_push_size _ rfl
  skip; have keepX : ∀ b o, s.heap.get? b = some o → b ≠ s.heap.objs.size + 1 ∧ (((s.heap.push (seqObj "list" #[] 0)).update s.heap.objs.size (Obj.mapSeq (· ++ vs.toArray))).push (seqObj "list" vs.toArray 0)).get? b = some o := fun b o q => by
    skip; have hlt : b < s.heap.objs.size := Heap.lt_size q
    skip; refine ⟨Nat.ne_of_lt (Nat.lt_succ_of_lt hlt), Heap.get?_push_of_some _ ?_⟩
    skip; rw [Heap.get?_update_ne _ _ _ _ (Nat.ne_of_lt hlt)]
    skip; exact Heap.get?_push_of_some _ q
  skip; show wpAny _ _ _ _ _ { s with heap := ((s.heap.push (seqObj "list" #[] 0)).update s.heap.objs.size (Obj.mapSeq (· ++ vs.toArray))).push (seqObj "list" vs.toArray 0) }
  rw [hszX]
  skip; refine wpAny_bind (wpAny_holding (wpAny_call_entry slot_list_sort ⟨_, hoLX, rfl⟩ entry_list_sort (list_sort_ord O hoLX hz (fun h2 => hS h2 _ _ hoLX keepX) fun out hs hb => ⟨_, rfl, ?_⟩) (args_list_sort _)))
  skip; exact wpAny_pure ⟨_, rfl, h out hs hb⟩

end
end SrtO
namespace PL
open PySem PySem.Spec PyProof.Rows L2
theorem sorted_tupI {X : Cx} {pins : List (Addr × Obj)} {s : Shared} {σ : L2.St} {H : Hp} {us : List Value} {Q : VK} {a : Addr} {ns : List Int} (I : Inv X pins σ H s) (r : Vals [V.ref a] us) (hs : SqT X.K H a (ns.map V.int))
    (q : ∀ (ns' : List Int) (p : Addr), ns'.Perm ns → ns'.Pairwise (· ≤ ·) → H p = none → Q (.ref p) (upd H p (.lst (ns'.map V.int)))) :
    wpAny (model X.prog X.w) X.A (call (.builtin "sorted") us) (fun u s' => ∃ v H', Inv X pins σ H' s' ∧ RelV v u ∧ Q v H') X.xe s := by
  obtain ⟨its, rv, hl, hz⟩ := I.tuple hs
  rw [Vals.ref1 r]
  have hiT := rv.ints
  refine SrtO.sorted_tupX (vs := its) SrtO.swo_int hl (by rw [← rv.length]; simpa using hz) (fun h2 h₁ a' _ _ => SrtO.ints_sortable hiT h2) fun out h1 h2 => ?_
  obtain ⟨k1, k2, k3⟩ := SrtO.ints_out hiT h1 h2
  obtain ⟨ep, heT⟩ := PyProof.Rows.sortedAll_at s.heap its out.toArray
  have hlT : ((out.map SrtO.iv).map V.int).length ≤ sizeLine := by
    rw [List.length_map, k2.length_eq]; rw [List.length_map] at hz; exact hz
  exact ⟨.ref _, upd H (s.heap.objs.size + 1) (.lst ((out.map SrtO.iv).map V.int)), I.laid (t' := s.toks) (fun _ _ => PyProof.Rows.sortedAll_old) (Nat.le_succ _) ⟨hlT, out, ep, vals_of_ints k1, heT⟩, rfl,
    q _ _ k2 k3 (I.hok.fresh (Nat.le_succ _))⟩
/-- sorted of a list with at most one value, of any kind -/
def rSrt1 (K : PySem.W.Frag) : List V → Hp → VK → Prop := fun vs H Q => ∃ (a : Addr) (xs : List V), vs = [V.ref a] ∧ SqL K H a xs ∧ xs.length < 2 ∧
  ∀ p : Addr, H p = none → Q (.ref p) (upd H p (.lst xs))
theorem cr_srt1 {X : Cx} : CallR X (.builtin "sorted") (rSrt1 X.K) := by
  intro pins s σ H vs us Q I r h
  obtain ⟨a, xs, rfl, hs, h2, q⟩ := h
  obtain ⟨its, rv, hl, hz⟩ := I.list hs
  rw [Vals.ref1 r]
  refine SrtO.sorted_ord SrtO.swo_int hl.isList (by rw [← rv.length]; exact hz) (fun h3 h₁ a' _ _ => absurd h3 (by rw [← rv.length]; omega)) fun out h1 h2' => ?_
  have e : out = its := by
    have hp := h2'.perm
    have hlen := hp.length_eq
    match its, out, rv.length, hp with
    | [], out, _, hp => exact hp.eq_nil
    | [x], out, _, hp => exact List.perm_singleton.mp hp
    | _ :: _ :: _, _, hh, _ => simp at hh; omega
  subst e
  obtain ⟨ep, heT⟩ := PyProof.Rows.sortedAll_at s.heap out out.toArray
  exact ⟨.ref _, upd H (s.heap.objs.size + 1) (.lst xs), I.laid (t' := s.toks) (fun _ _ => PyProof.Rows.sortedAll_old) (Nat.le_succ _) ⟨hz, out, ep, rv, heT⟩, rfl,
    q _ (I.hok.fresh (Nat.le_succ _))⟩
def rSrt3 (K : PySem.W.Frag) : List V → Hp → VK → Prop := fun vs H Q => rSortedI K vs H Q ∨
  (∃ (a : Addr) (ns : List Int), vs = [V.ref a] ∧ SqT K H a (ns.map V.int) ∧ ∀ (ns' : List Int) (p : Addr), ns'.Perm ns → ns'.Pairwise (· ≤ ·) → H p = none → Q (.ref p) (upd H p (.lst (ns'.map V.int)))) ∨
  (∃ d, 1 ≤ d ∧ rSortU K d 10000000000000 vs H Q) ∨ rSrt1 K vs H Q
theorem cr_srt3 {X : Cx} : CallR X (.builtin "sorted") (rSrt3 X.K) := by
  intro pins s σ H vs us Q I r h
  rcases h with h | ⟨a, ns, rfl, hs, q⟩ | ⟨d, hd, h⟩ | h
  · exact cr_sortedI pins s σ H vs us Q I r h
  · exact sorted_tupI I r hs q
  · exact cr_sortT hd pins s σ H vs us Q I r h
  · exact cr_srt1 pins s σ H vs us Q I r h
/-! sorted, plain -/
def insB {α : Type} (le : α → α → Bool) (x : α) : List α → List α
  | [] => [x]
  | y :: r => if le x y = true then x :: y :: r else y :: insB le x r
def srtB {α : Type} (le : α → α → Bool) : List α → List α
  | [] => []
  | x :: r => insB le x (srtB le r)
theorem insB_perm {α : Type} (le : α → α → Bool) (x : α) : ∀ l : List α, (insB le x l).Perm (x :: l)
  | [] => .refl _
  | y :: r => by
    unfold insB
    split
    · exact .refl _
    · exact ((insB_perm le x r).cons y).trans (.swap x y r)
theorem srtB_perm {α : Type} (le : α → α → Bool) : ∀ l : List α, (srtB le l).Perm l
  | [] => .refl _
  | x :: r => (insB_perm le x _).trans ((srtB_perm le r).cons x)
theorem insB_pw {α : Type} {le : α → α → Bool} (tot : ∀ a b, le a b = true ∨ le b a = true) (tr : ∀ a b c, le a b = true → le b c = true → le a c = true) (x : α) : ∀ l : List α, l.Pairwise (fun a b => le a b = true) → (insB le x l).Pairwise (fun a b => le a b = true)
  | [], _ => by simp [insB]
  | y :: r, h => by
    unfold insB
    rw [List.pairwise_cons] at h
    split
    · rename_i hxy
      refine List.pairwise_cons.mpr ⟨fun z hz => ?_, List.pairwise_cons.mpr h⟩
      rcases List.mem_cons.mp hz with rfl | hz
      · exact hxy
      · exact tr _ _ _ hxy (h.1 z hz)
    · rename_i hxy
      refine List.pairwise_cons.mpr ⟨fun z hz => ?_, insB_pw tot tr x r h.2⟩
      rcases List.mem_cons.mp ((insB_perm le x r).subset hz) with rfl | hz
      · exact (tot z y).resolve_left hxy
      · exact h.1 z hz
theorem srtB_pw {α : Type} {le : α → α → Bool} (tot : ∀ a b, le a b = true ∨ le b a = true) (tr : ∀ a b c, le a b = true → le b c = true → le a c = true) : ∀ l : List α, (srtB le l).Pairwise (fun a b => le a b = true)
  | [] => .nil
  | x :: r => insB_pw tot tr x _ (srtB_pw tot tr r)
def leI (a b : Int) : Bool := decide (a ≤ b)
def srtI (l : List Int) : List Int := srtB leI l
theorem srtI_perm (l : List Int) : (srtI l).Perm l := srtB_perm _ l
theorem srtI_pw (l : List Int) : (srtI l).Pairwise (· ≤ ·) := (srtB_pw (le := leI) (by unfold leI; simp only [decide_eq_true_eq]; omega) (by unfold leI; simp only [decide_eq_true_eq]; omega) l).imp fun h => of_decide_eq_true h
theorem srtI_uniq {l m : List Int} (p : m.Perm l) (h : m.Pairwise (· ≤ ·)) : m = srtI l := (p.trans (srtI_perm l).symm).eq_of_pairwise (fun a b _ _ h1 h2 => Int.le_antisymm h1 h2) h (srtI_pw l)
/-- rows, by their code -/
def BB : Int := 10000000000000
def leR (a b : List Int) : Bool := decide (TS.code BB a ≤ TS.code BB b)
def srtR (l : List (List Int)) : List (List Int) := srtB leR l
theorem srtR_perm (l : List (List Int)) : (srtR l).Perm l := srtB_perm _ l
theorem srtR_pw (l : List (List Int)) : (srtR l).Pairwise (fun a b => TS.code BB a ≤ TS.code BB b) := (srtB_pw (le := leR) (by unfold leR; simp only [decide_eq_true_eq]; omega) (by unfold leR; simp only [decide_eq_true_eq]; omega) l).imp fun h => of_decide_eq_true h
def intsOf : List D → Option (List Int)
  | [] => some []
  | .int i :: r => (intsOf r).map (i :: ·)
  | _ :: _ => none
theorem intsOf_eq : ∀ {l : List D} {ns : List Int}, intsOf l = some ns → l = ns.map .int
  | [], ns, h => by simp [intsOf] at h; subst h; rfl
  | d :: r, ns, h => by
    cases d <;> simp only [intsOf, reduceCtorEq] at h
    obtain ⟨ms, h1, rfl⟩ := Option.map_eq_some_iff.mp h
    rw [intsOf_eq h1]; rfl
theorem intsOf_map : ∀ (ns : List Int), intsOf (ns.map .int) = some ns
  | [] => rfl
  | n :: ns => by simp [intsOf, intsOf_map ns]
def rowsOf : List D → Option (List (List Int))
  | [] => some []
  | .tup xs :: r => (intsOf xs).bind fun ns => (rowsOf r).map (ns :: ·)
  | _ :: _ => none
theorem rowsOf_eq : ∀ {l : List D} {rs : List (List Int)}, rowsOf l = some rs → l = rs.map fun r => .tup (r.map .int)
  | [], rs, h => by simp [rowsOf] at h; subst h; rfl
  | d :: r, rs, h => by
    cases d <;> simp only [rowsOf, reduceCtorEq] at h
    obtain ⟨ns, h1, h2⟩ := Option.bind_eq_some_iff.mp h
    obtain ⟨ms, h3, rfl⟩ := Option.map_eq_some_iff.mp h2
    rw [rowsOf_eq h3, intsOf_eq h1]; rfl
theorem rowsOf_map : ∀ (rs : List (List Int)), rowsOf (rs.map fun r => .tup (r.map .int)) = some rs
  | [] => rfl
  | n :: ns => by simp [rowsOf, intsOf_map, rowsOf_map ns]
/-- rows that can be sorted: all as long, not empty, with numbers in bounds -/
def RowsOk (rs : List (List Int)) : Prop := rs.length < 64 ∧ ∃ d, 1 ≤ d ∧ ∀ r ∈ rs, r.length = d ∧ ∀ n ∈ r, 0 ≤ n ∧ n < BB
noncomputable def gSorted : D → Option D
  | .tup xs => (intsOf xs).map fun ns => .opn ((srtI ns).map .int)
  | .lst xs => match intsOf xs with
    | some ns => some (.opn ((srtI ns).map .int))
    | none => (rowsOf xs).bind fun rs => if cdec (RowsOk rs) = true then some (.opn ((srtR rs).map fun r => .tup (r.map .int))) else if rs.length < 2 then some (.opn xs) else none
  | _ => none
theorem repL_intsV {K : PySem.W.Frag} {H : Hp} : ∀ {ns : List Int} {vs : List V}, RepL K H (ns.map .int) vs → vs = ns.map V.int
  | [], vs, h => by simpa [RepL] using h
  | n :: ns, vs, h => by
    simp only [List.map_cons, RepL, RepF] at h
    obtain ⟨v, r, rfl, rfl, h2⟩ := h
    rw [repL_intsV h2]; rfl
theorem repL_ints {K : PySem.W.Frag} {H : Hp} : ∀ {ns : List Int}, RepL K H (ns.map .int) (ns.map V.int)
  | [] => by simp [RepL]
  | n :: ns => by
    simp only [List.map_cons, RepL, RepF]
    exact ⟨_, _, rfl, rfl, repL_ints⟩
theorem code_inj : ∀ a b : List Int, a.length = b.length → TS.Bd BB a → TS.Bd BB b → TS.code BB a = TS.code BB b → a = b
  | [], [], _, _, _, _ => rfl
  | [], _ :: _, h, _, _, _ => by simp at h
  | _ :: _, [], h, _, _, _ => by simp at h
  | x :: a, y :: b, hl, b1, b2, hc => by
    have hl2 : a.length = b.length := by simpa using hl
    rcases Int.lt_trichotomy x y with z | z | z
    · have := TS.code_lt hl2 b1.tail b2.tail z; omega
    · subst z
      have e : TS.code BB a = TS.code BB b := by
        have c1 := hc
        simp only [TS.code] at c1
        rw [hl2] at c1
        omega
      rw [code_inj a b hl2 b1.tail b2.tail e]
    · have := TS.code_lt hl2.symm b2.tail b1.tail z; omega
theorem srtR_uniq {K : PySem.W.Frag} {H : Hp} {d : Nat} {rs : List (List Int)} {ys xs : List V} (hd : ∀ r ∈ rs, r.length = d ∧ TS.Bd BB r) (rx : RepL K H (rs.map fun r => .tup (r.map .int)) xs) (p : ys.Perm xs)
    (h : ys.Pairwise (fun x y => ∀ n m, TupI K H x n → TupI K H y m → TS.code BB n ≤ TS.code BB m)) : RepL K H ((srtR rs).map fun r => .tup (r.map .int)) ys := by
  -- the rows behind ys
  have key : ∀ {xs ys : List V}, ys.Perm xs → ∀ rs : List (List Int), RepL K H (rs.map fun r => .tup (r.map .int)) xs → ∃ qs : List (List Int), qs.Perm rs ∧ RepL K H (qs.map fun r => .tup (r.map .int)) ys := by
    intro xs ys p
    induction p with
    | nil => intro rs hr; exact ⟨rs, .refl _, hr⟩
    | cons x _ ih =>
      intro rs hr
      cases rs with
      | nil => simp [RepL] at hr
      | cons r rs =>
        simp only [List.map_cons, RepL] at hr
        obtain ⟨v, s, e, h1, h2⟩ := hr
        cases e
        obtain ⟨qs, q1, q2⟩ := ih rs h2
        exact ⟨r :: qs, q1.cons r, by simp only [List.map_cons, RepL]; exact ⟨_, _, rfl, h1, q2⟩⟩
    | swap x y l =>
      intro rs hr
      cases rs with
      | nil => simp [RepL] at hr
      | cons r rs =>
        cases rs with
        | nil => simp [RepL] at hr
        | cons r2 rs =>
          simp only [List.map_cons, RepL] at hr
          obtain ⟨v, s, e, h1, v2, s2, e2, h3, h4⟩ := hr
          cases e; cases e2
          exact ⟨r2 :: r :: rs, .swap _ _ _, by simp only [List.map_cons, RepL]; exact ⟨_, _, rfl, h3, _, _, rfl, h1, h4⟩⟩
    | trans _ _ ih1 ih2 =>
      intro rs hr
      obtain ⟨qs, q1, q2⟩ := ih2 rs hr
      obtain ⟨ts, t1, t2⟩ := ih1 qs q2
      exact ⟨ts, t1.trans q1, t2⟩
  obtain ⟨qs, q1, q2⟩ := key p rs rx
  have tup : ∀ {r : List Int} {v : V}, RepF K H (.tup (r.map .int)) v → TupI K H v r := fun {r v} h => by
    obtain ⟨a, vs, rfl, ha, ra⟩ := repW_tup (RepW.of h)
    rw [repL_intsV ra] at ha
    exact ⟨a, rfl, ha⟩
  have pw : ∀ {ys : List V} {qs : List (List Int)}, RepL K H (qs.map fun r => .tup (r.map .int)) ys → ys.Pairwise (fun x y => ∀ n m, TupI K H x n → TupI K H y m → TS.code BB n ≤ TS.code BB m) → qs.Pairwise (fun a b => TS.code BB a ≤ TS.code BB b) := by
    intro ys qs
    induction qs generalizing ys with
    | nil => intro _ _; exact .nil
    | cons r qs ih =>
      intro hr hp
      simp only [List.map_cons, RepL] at hr
      obtain ⟨v, s, rfl, h1, h2⟩ := hr
      rw [List.pairwise_cons] at hp
      refine List.pairwise_cons.mpr ⟨fun r2 hr2 => ?_, ih h2 hp.2⟩
      obtain ⟨j, hj⟩ := List.getElem?_of_mem hr2
      obtain ⟨v2, h3, h4⟩ := h2.get (i := j) (d := .tup (r2.map .int)) (by rw [List.getElem?_map, hj]; rfl)
      exact hp.1 v2 (List.mem_of_getElem? h3) _ _ (tup h1) (tup h4)
  have e : qs = srtR rs := (q1.trans (srtR_perm rs).symm).eq_of_pairwise (fun a b ha hb h1 h2 => code_inj a b ((hd a (q1.subset ha)).1.trans (hd b ((srtR_perm rs).subset hb)).1.symm) (hd a (q1.subset ha)).2 (hd b ((srtR_perm rs).subset hb)).2 (by omega)) (pw q2 h) (srtR_pw rs)
  rw [← e]
  exact q2
theorem rul_sorted {K : PySem.W.Frag} : RulU K gSorted (rSrt3 K) := fun dx d x H Q r h q => by
  cases dx <;> simp only [gSorted, reduceCtorEq] at h
  · obtain ⟨ns, h1, rfl⟩ := Option.map_eq_some_iff.mp h
    obtain ⟨a, vs, rfl, ha, ra⟩ := repW_tup r
    rw [intsOf_eq h1] at ra
    rw [repL_intsV ra] at ha
    exact .inr (.inl ⟨a, ns, rfl, ha, fun ns' p hp hpw hn => q _ _ (same_new hn) ⟨p, _, rfl, hn, upd_same, by rw [← srtI_uniq hp hpw]; exact repL_ints⟩⟩)
  · obtain ⟨a, vs, rfl, ha, ra⟩ := repW_lst r
    split at h
    · rename_i ns h1
      cases h
      rw [intsOf_eq h1] at ra
      rw [repL_intsV ra] at ha
      exact .inl ⟨a, ns, rfl, .inl ha, fun ns' p hp hpw hn => q _ _ (same_new hn) ⟨p, _, rfl, hn, upd_same, by rw [← srtI_uniq hp hpw]; exact repL_ints⟩⟩
    · obtain ⟨rs, h1, h2⟩ := Option.bind_eq_some_iff.mp h
      split at h2
      · rename_i hok
        cases h2
        obtain ⟨o1, w1, o2, o3⟩ := cdec_iff.mp hok
        rw [rowsOf_eq h1] at ra
        refine .inr (.inr (.inl ⟨w1, o2, a, vs, rfl, .inl ha, by rw [ra.length, List.length_map]; exact o1, fun x hx => ?_, fun ys p hp hpw hn => q _ _ (same_new hn) ⟨p, ys, rfl, hn, upd_same, RepL.ext (Ext.of (same_new hn)) _ _ (srtR_uniq (d := w1) (fun r hr => ⟨(o3 r hr).1, (o3 r hr).2⟩) ra hp hpw)⟩⟩))
        obtain ⟨j, hj⟩ := List.getElem?_of_mem hx
        have hlt : j < rs.length := by
          have := (List.getElem?_eq_some_iff.mp hj).1
          rw [ra.length, List.length_map] at this; exact this
        obtain ⟨v2, h3, h4⟩ := ra.get (i := j) (d := .tup (rs[j].map .int)) (by rw [List.getElem?_map, List.getElem?_eq_getElem hlt]; rfl)
        rw [hj] at h3; cases h3
        obtain ⟨a2, vs2, rfl, ha2, ra2⟩ := repW_tup (RepW.of h4)
        rw [repL_intsV ra2] at ha2
        exact ⟨rs[j], ⟨a2, rfl, ha2⟩, (o3 _ (List.getElem_mem hlt)).1, (o3 _ (List.getElem_mem hlt)).2⟩
      · split at h2
        · rename_i hlt
          cases h2
          exact .inr (.inr (.inr ⟨a, vs, rfl, .inl ha, by rw [ra.length, rowsOf_eq h1, List.length_map]; exact hlt, fun p hn => q _ _ (same_new hn) ⟨p, vs, rfl, hn, upd_same, RepL.ext (Ext.of (same_new hn)) _ _ ra⟩⟩))
        · cases h2
section
variable {X : Cx} {a b : Expr} {fa : Rho → Option D} {pos : Pos}
theorem me_sorted {p : Pos} (hg : Gl X "sorted") (hm : X.mg "sorted" = none) (ha : WE X a fa) (he : starEach [a] X.env = (false, eval a X.env) :: starEach [] X.env := by rfl) (hpl : (backTo pos (starEach [] X.env)).any (·.1) = false := by rfl) :
    ME X (.Call (.Name "sorted" p) [a] [] pos) (u1 gSorted fa) := me_callB (id := "sorted") cr_srt3 rul_sorted hg hm (by decide +kernel) ha (by decide) (by decide) he hpl
def gSum : D → Option D
  | .lst xs => (intsOf xs).map fun ns => .int ns.sum
  | _ => none
theorem rul_sum {K : PySem.W.Frag} : RulU K gSum (rSum K) := fun dx d x H Q r h q => by
  cases dx <;> simp only [gSum, reduceCtorEq] at h
  obtain ⟨ns, h1, rfl⟩ := Option.map_eq_some_iff.mp h
  obtain ⟨a, vs, rfl, ha, ra⟩ := repW_lst r
  rw [intsOf_eq h1] at ra
  rw [repL_intsV ra] at ha
  exact ⟨a, ns, rfl, .inl ha, q _ H (Same.refl H) (RepM.of repF_int)⟩
theorem fe_sum {p : Pos} (hc : X.calm = true) (hg : Gl X "sum") (hm : X.mg "sum" = none) (ha : WE X a fa) (he : starEach [a] X.env = (false, eval a X.env) :: starEach [] X.env := by rfl) (hpl : (backTo pos (starEach [] X.env)).any (·.1) = false := by rfl) :
    FE X (.Call (.Name "sum" p) [a] [] pos) (u1 gSum fa) :=
  fe_of_plain (fun x d h ds => by
      cases x <;> simp only [gSum, reduceCtorEq] at h
      obtain ⟨ns, _, rfl⟩ := Option.map_eq_some_iff.mp h
      exact fun z => nomatch z)
    (me_callB (id := "sum") (cr_sum hc) rul_sum hg hm (by decide +kernel) ha (by decide) (by decide) he hpl)
end
end PL
/-! ### part PL15 -/
namespace PL
open PySem PySem.Spec PyProof.Rows L2

/-! ### comprehensions of two clauses -/
def compGo2 (t : Tgt) (src1 : Rho → Option (List D)) (vs1 : List Nat) (t1 : Tgt) (e : Rho → Option D) (ρ : Rho) : List D → Option (List D)
  | [] => some []
  | d :: r => (t d ρ).bind fun ρ1 => (src1 ρ1).bind fun l1 => (compGo t1 cYes e (wipeR ρ1 vs1) l1).bind fun ys => (compGo2 t src1 vs1 t1 e ρ r).map (ys ++ ·)
def fComp2 (src : Rho → Option (List D)) (vs : List Nat) (t : Tgt) (src1 : Rho → Option (List D)) (vs1 : List Nat) (t1 : Tgt) (e : Rho → Option D) : Rho → Option D := fun ρ => (src ρ).bind fun l => (compGo2 t src1 vs1 t1 e (wipeR ρ vs) l).bind fun out => if small out.length = true then some (.opn out) else none
theorem tlc2_of {K : PySem.W.Frag} {b : Bool} {src src1 : Rho → Option (List D)} {is is1 vs vs1 : List Nat} {t t1 : Tgt} {e : Rho → Option D} (hv : ∀ i ∈ is, i ∈ vs) (hv1 : ∀ i ∈ is1, i ∈ vs1) {σ : L2.St} {H : Hp} {Q : VK}
    (h : tM K (fComp2 src vs t src1 vs1 t1 e) σ H Q) : tLc2 (iI K b src) (tT K is t) (tB K cYes) (iI K true src1) (tT K is1 t1) (tB K cYes) (tF K e) vs vs1 σ H Q := by
  obtain ⟨ρ, d0, er, hf, q⟩ := h
  obtain ⟨l, h1, h2⟩ := Option.bind_eq_some_iff.mp hf
  obtain ⟨out, h3, h2⟩ := Option.bind_eq_some_iff.mp h2
  split at h2
  · rename_i hsm
    cases h2
    refine ⟨ρ, l, er, h1, fun J H1 S s1 w hS _ L hD => ?_⟩
    have hl := small_le hsm
    refine ⟨fun i m H2 => m = l.length - i ∧ i ≤ l.length ∧ ∃ acc rest vs2, compGo2 t src1 vs1 t1 e (wipeR ρ vs) (l.drop i) = some rest ∧ acc ++ rest = out ∧ H2 L = some (.lst vs2) ∧ RepL K H2 acc vs2 ∧ Same H1 H2,
      ⟨l.length, by simp, Nat.zero_le _, [], out, [], by simpa using h3, rfl, upd_same, .nil, same_new hD⟩, ?_⟩
    rintro i m H2 ⟨rfl, hi, acc, rest, vs2, g1, g2, g3, g4, g6⟩
    have kS : ∀ a, S a → H2 a = H1 a := fun a ha => by
      obtain ⟨xs, hx⟩ := hS a ha
      rw [hx, g6 a _ hx]
    by_cases hlt : i < l.length
    · refine .inr ⟨w.go i H2 hlt (Ext.of g6) kS, _, fun H' n => ⟨l.length - (i + 1), by omega, rfl, hlt, n⟩, fun x H3 y => ?_⟩
      have hd : l[i]? = some l[i] := List.getElem?_eq_getElem hlt
      obtain ⟨s3, r3⟩ := w.yld i H2 x H3 l[i] hd (Ext.of g6) kS y
      have e1 : l.drop i = l[i] :: l.drop (i + 1) := List.drop_eq_getElem_cons hlt
      rw [e1] at g1
      simp only [compGo2] at g1
      obtain ⟨ρ1, u1, g1⟩ := Option.bind_eq_some_iff.mp g1
      obtain ⟨l1, u2, g1⟩ := Option.bind_eq_some_iff.mp g1
      obtain ⟨ys, u3, g1⟩ := Option.bind_eq_some_iff.mp g1
      obtain ⟨rest', u4, rfl⟩ := Option.map_eq_some_iff.mp g1
      have er3 : ER K H3 (wipe σ vs) (wipeR ρ vs) := er_wipe (er.same ((s1.trans g6).trans s3)) vs
      refine ⟨wipeR ρ vs, l[i], ρ1, er3, r3, u1, fun σ4 H4 s4 st => ⟨by rw [st.wipe hv, wipe_wipe], ?_⟩⟩
      have er4 := st.er (er3.same s4)
      refine ⟨ρ1, true, er4, rfl, fun H5 s5 => ?_⟩
      simp only [if_true]
      refine ⟨ρ1, l1, er4.same s5, u2, fun J1 H6 S1 s6 w1 hS1 hE1 => ?_⟩
      have noS := hE1 rfl
      have s26 := ((s3.trans s4).trans s5).trans s6
      refine ⟨fun j k H7 => k = l1.length - j ∧ j ≤ l1.length ∧ ∃ acc1 rest1 vs3, compGo t1 cYes e (wipeR ρ1 vs1) (l1.drop j) = some rest1 ∧ acc1 ++ (rest1 ++ rest') = out ∧ H7 L = some (.lst vs3) ∧ RepL K H7 acc1 vs3 ∧ Ext H6 H7 ∧ Same H1 H7,
        ⟨l1.length, by simp, Nat.zero_le _, acc, ys, vs2, by simpa using u3, g2, s26 _ _ g3, g4.ext (Ext.of s26), Ext.refl _, g6.trans s26⟩, ?_⟩
      rintro j k H7 ⟨rfl, hj, acc1, rest1, vs3, c1, c2, c3, c4, c5, c6⟩
      by_cases hjl : j < l1.length
      · refine .inr ⟨w1.go j H7 hjl c5 (fun a ha => (noS a ha).elim), _, fun H' n => ⟨l1.length - (j + 1), by omega, rfl, hjl, n⟩, fun x1 H8 y1 => ?_⟩
        have hd1 : l1[j]? = some l1[j] := List.getElem?_eq_getElem hjl
        obtain ⟨s8, r8⟩ := w1.yld j H7 x1 H8 l1[j] hd1 c5 (fun a ha => (noS a ha).elim) y1
        have e2 : l1.drop j = l1[j] :: l1.drop (j + 1) := List.drop_eq_getElem_cons hjl
        rw [e2] at c1
        simp only [compGo] at c1
        obtain ⟨ρ2, v1, c1⟩ := Option.bind_eq_some_iff.mp c1
        simp only [cYes, Option.bind_some, if_true] at c1
        obtain ⟨y2, v2, c1⟩ := Option.bind_eq_some_iff.mp c1
        obtain ⟨rest2, v3, rfl⟩ := Option.map_eq_some_iff.mp c1
        have er8 : ER K H8 (wipe σ4 vs1) (wipeR ρ1 vs1) := er_wipe ((Sets.ext ((((Ext.of s5).trans (Ext.of s6)).trans c5).trans (Ext.of s8)) st).er (er_wipe (er.same (s1.trans (c6.trans s8))) vs)) vs1
        refine ⟨wipeR ρ1 vs1, l1[j], ρ2, er8, r8, v1, fun σ9 H9 s9 st9 => ⟨by rw [st9.wipe hv1, wipe_wipe], ?_⟩⟩
        refine ⟨ρ2, true, st9.er (er8.same s9), rfl, fun H10 s10 => ?_⟩
        simp only [if_true]
        refine ⟨ρ2, y2, (st9.er (er8.same s9)).same s10, v2, fun v H11 s11 r11 => ?_⟩
        have s711 := ((s8.trans s9).trans s10).trans s11
        have c3' := s711 _ _ c3
        have ext : Ext H11 (upd H11 L (.lst (vs3 ++ [v]))) := Ext.updO (.inl (by rw [c3']; trivial))
        refine ⟨vs3, c3', ?_, acc1 ++ [y2], rest2, vs3 ++ [v], v3, by rw [← c2]; simp, upd_same, ?_, (c5.trans (Ext.of s711)).trans ext, same_new2 (c6.trans s711) hD⟩
        · have : (acc1 ++ (y2 :: rest2 ++ rest')).length = out.length := by rw [c2]
          rw [c4.length]
          simp at this
          omega
        · exact ((c4.ext (Ext.of s711)).append (RepL.one r11)).ext ext
      · have ej : j = l1.length := by omega
        subst ej
        rw [List.drop_length] at c1
        simp only [compGo] at c1
        cases c1
        rw [List.nil_append] at c2
        exact .inl ⟨w1.stop H7 c5 (fun a ha => (noS a ha).elim), acc1, rest', vs3, u4, c2, c3, c4, c6⟩
    · have e : i = l.length := by omega
      subst e
      rw [List.drop_length] at g1
      simp only [compGo2] at g1
      cases g1
      rw [List.append_nil] at g2
      subst g2
      exact .inl ⟨w.stop H2 (Ext.of g6) kS, q _ H2 (s1.trans g6) ⟨L, vs2, rfl, s1.free hD, g3, g4⟩⟩
  · cases h2
section
variable {X : Cx} {H0 : Hp}
theorem me_lc2 {elt tg iter tg1 iter1 : Expr} {scope : Scope} {own : List (Str × Nat)} {pos: Pos} {b : Bool} {src src1 : Rho → Option (List D)} {is is1 vs vs1 : List Nat} {t t1 : Tgt} {e : Rho → Option D} (hc : X.calm = true) (hN : X.N.Nodup) (hi : IE X tg iter b src) (ok : BlkOk X.N X.env.scope scope own)
    (hg : ∀ (s : Shared) (H : Hp) (C : Addr) (cl : List (Str × Addr)) (fp : List Addr), GE (X.blk s H scope (compEnvC scope cl C X.env) fp) tg is t)
    (hi1 : ∀ (s : Shared) (H : Hp) (C : Addr) (cl : List (Str × Addr)) (fp : List Addr), IE (X.blk s H scope (compEnvC scope cl C X.env) fp) tg1 iter1 true src1)
    (hg1 : ∀ (s : Shared) (H : Hp) (C : Addr) (cl : List (Str × Addr)) (fp : List Addr), GE (X.blk s H scope (compEnvC scope cl C X.env) fp) tg1 is1 t1)
    (he : ∀ (s : Shared) (H : Hp) (C : Addr) (cl : List (Str × Addr)) (fp : List Addr), FE (X.blk s H scope (compEnvC scope cl C X.env) fp) elt e) (hvs : own.map (·.2) = vs := by rfl) (hv : ∀ i ∈ is, i ∈ vs := by decide) (hv1 : ∀ i ∈ is1, i ∈ vs1 := by decide) (hw : ∀ i ∈ vs1, i ∈ vs := by decide) (hs : ∀ x, foldedSetIterable iter X.env x = pure x := by intro _; rfl) (hs1 : ∀ env x, foldedSetIterable iter1 env x = pure x := by intro _ _; rfl) :
    ME X (.ListComp elt [⟨tg, iter, [], 0⟩, ⟨tg1, iter1, [], 0⟩] scope pos) (fComp2 src vs t src1 vs1 t1 e) := by
  subst hvs
  exact PE.weak (pe_lc2 (g := tT X.K is t) (tt := tB X.K cYes) (wi1 := iI X.K true src1) (g1 := tT X.K is1 t1) (tt1 := tB X.K cYes) (te := tF X.K e) (vs1 := vs1) hc hN hi ok hw hg (fun _ _ _ _ _ => ifs_nil) hi1 hg1 (fun _ _ _ _ _ => ifs_nil) he hs hs1) fun σ H Q h => tlc2_of hv hv1 h
/-- name = [..] on one line, the list left alone from then on -/
theorem se_setLc2F {y : Str} {py : Pos} {elt tg iter tg1 iter1 : Expr} {scope : Scope} {own : List (Str × Nat)} {pos spos : Pos} {b : Bool} {src src1 : Rho → Option (List D)} {is is1 vs vs1 : List Nat} {t t1 : Tgt} {e : Rho → Option D} (i : Nat) (hc : X.calm = true) (hN : X.N.Nodup) (hy : X.N[i]? = some y) (hyl : X.env.scope.names.lookup y = some .local)
    (hsw : swapsWith (.ListComp elt [⟨tg, iter, [], 0⟩, ⟨tg1, iter1, [], 0⟩] scope pos) (some (.Name y py)) spos.line X.env = pure true) (hi : IE X tg iter b src) (ok : BlkOk X.N X.env.scope scope own)
    (hg : ∀ (s : Shared) (H : Hp) (C : Addr) (cl : List (Str × Addr)) (fp : List Addr), GE (X.blk s H scope (compEnvC scope cl C X.env) fp) tg is t)
    (hi1 : ∀ (s : Shared) (H : Hp) (C : Addr) (cl : List (Str × Addr)) (fp : List Addr), IE (X.blk s H scope (compEnvC scope cl C X.env) fp) tg1 iter1 true src1)
    (hg1 : ∀ (s : Shared) (H : Hp) (C : Addr) (cl : List (Str × Addr)) (fp : List Addr), GE (X.blk s H scope (compEnvC scope cl C X.env) fp) tg1 is1 t1)
    (he : ∀ (s : Shared) (H : Hp) (C : Addr) (cl : List (Str × Addr)) (fp : List Addr), FE (X.blk s H scope (compEnvC scope cl C X.env) fp) elt e) (hvs : own.map (·.2) = vs := by rfl) (hv : ∀ i ∈ is, i ∈ vs := by decide) (hv1 : ∀ i ∈ is1, i ∈ vs1 := by decide) (hw : ∀ i ∈ vs1, i ∈ vs := by decide) (hs : ∀ x, foldedSetIterable iter X.env x = pure x := by intro _; rfl) (hs1 : ∀ env x, foldedSetIterable iter1 env x = pure x := by intro _ _; rfl) :
    SE X H0 (.Assign [.Name y py] (.ListComp elt [⟨tg, iter, [], 0⟩, ⟨tg1, iter1, [], 0⟩] scope pos) spos) (gSet i (fz (fComp2 src vs t src1 vs1 t1 e))) := by
  subst hvs
  refine ⟨fun pins s σ H E I ⟨ρ, fl, er, hf, kk⟩ => ?_⟩
  obtain ⟨d', hd', rfl⟩ := Option.map_eq_some_iff.mp hf
  obtain ⟨d, hd, rfl⟩ := Option.map_eq_some_iff.mp hd'
  rw [exec_Assign_Name_used _ _ _ _ hsw]
  refine wpAny_bind (wpAny_standAt (wpAny_bind ?_))
  show wpAny _ X.A (do let _ ← comprehension (.ListComp elt [⟨tg, iter, [], 0⟩, ⟨tg1, iter1, [], 0⟩] scope pos) scope X.env (firstIterPos [⟨tg, iter, [], 0⟩, ⟨tg1, iter1, [], 0⟩] pos) (newList []) false (eval iter X.env) (some (assign (.Name y py) X.env))) _ _ s
  have h : tLc2 (iI X.K b src) (tT X.K is t) (tB X.K cYes) (iI X.K true src1) (tT X.K is1 t1) (tB X.K cYes) (tF X.K e) (own.map (·.2)) vs1 σ H (fun v H' => Same H H' ∧ RepM X.K H H' d v) :=
    tlc2_of hv hv1 ⟨ρ, d, er.toER, hd, fun v H' s r => ⟨s, r⟩⟩
  refine wpAny_bind (thn (lc2_core (g := tT X.K is t) (tt := tB X.K cYes) (wi1 := iI X.K true src1) (g1 := tT X.K is1 t1) (tt1 := tB X.K cYes) (te := tF X.K e) (vs1 := vs1) (Qf := fun _ s' => SP X pins E .next s') hc hN I hi ok hw hg (fun _ _ _ _ _ => ifs_nil) he hs hi1 hg1 (fun _ _ _ _ _ => ifs_nil) hs1 h fun L C s' m H' I' q hn f => ?_) fun _ s' hq => wpAny_pure (wpAny_pure hq))
  show wpAny _ _ (assign (.Name y py) X.env (.ref L)) _ _ _
  refine wpAny_assign_Name (store_ok2 (v := V.ref L) I' hN hy (.inl hyl) rfl (fun s2 I2 ⟨a, sb, ha⟩ => ?_) (.inr hyl))
  obtain ⟨f0, f1, f2, f3, f4, f5⟩ := f
  have haC : C ≠ a := by
    rcases ha with z | z
    · rw [z]; exact f1
    · exact fun e => f4 y a z e.symm
  refine ⟨m, hn.sameBut sb haC, fun h3 sb3 => ?_⟩
  have I3 := I2.turned (t' := s2.toks) (h' := h3) (fun b o hb e => (sb3.2 b hb).trans e) f0 f1 f3 f4 f5
  obtain ⟨sm, r⟩ := q
  obtain ⟨l, h1, h2⟩ := Option.bind_eq_some_iff.mp hd
  obtain ⟨out, h3', h2⟩ := Option.bind_eq_some_iff.mp h2
  split at h2
  · cases h2
    obtain ⟨a', ws, e1, nn, gg, rr⟩ := r
    cases e1
    obtain ⟨od, I4⟩ := I3.lock gg trivial
    have ext : Ext H' (upd H' L (.frz od (.lst ws))) := Ext.updO (.inl (by rw [gg]; trivial))
    have s2' : Same H (upd H' L (.frz od (.lst ws))) := same_new2 sm nn
    refine ⟨_, _, I4, kk _ _ (Ext.of s2') (er.set s2' ?_)⟩
    show RepF _ _ (.lst out) _
    simp only [RepF]
    exact ⟨L, ws, od, rfl, upd_same, rr.ext ext⟩
  · cases h2
end
end PL
namespace PL
open PySem PySem.Spec PyProof.Rows L2
/-- a list of its own, if it still is one, is left alone from here on -/
def gIceT (i : Nat) (g : Rho → Option Fl) : Rho → Option Fl := fun ρ => match ρ[i]? with
  | some (some (.opn ds)) => g (ρ.set i (some (.lst ds)))
  | _ => g ρ
theorem se_iceT {X : Cx} {H0 : Hp} {st : Stmt} {g : Rho → Option Fl} (i : Nat) (h : SE X H0 st g) : SE X H0 st (gIceT i g) := by
  refine ⟨fun pins s σ H E I ⟨ρ, fl, er, hf, k⟩ => ?_⟩
  unfold gIceT at hf
  split at hf
  · rename_i ds hi
    refine (se_ice i h).run pins s σ H E I ⟨ρ, fl, er, ?_, k⟩
    unfold gIce
    rw [hi]; exact hf
  · exact h.run pins s σ H E I ⟨ρ, fl, er, hf, k⟩
end PL
/-! ### part PL16 -/
namespace PL
open PySem PySem.Spec PyProof.Rows L2
/-- range(i, j, c) -/
noncomputable def rng3 : List D → Option (List D)
  | [.int i, .int j, .int c] => if cdec (c ≠ 0 ∧ c.natAbs < 1073741824 ∧ Builtin.Range.small i j c = true ∧ 0 ≤ Builtin.Range.rangeSize i j c) = true then some ((List.range (Builtin.Range.rangeSize i j c).toNat).map fun k => .int (i + (k : Nat) * c)) else none
  | _ => none
theorem repL_three {K : PySem.W.Frag} {H : Hp} {i j k : Int} {vs : List V} (r : RepL K H [.int i, .int j, .int k] vs) : vs = [.int i, .int j, .int k] := by
  simp only [RepL, RepF] at r
  obtain ⟨v, r', rfl, rfl, w, r'', rfl, rfl, u, r3, rfl, rfl, rfl⟩ := r
  rfl
theorem ie_range3 {X : Cx} {tg a b c : Expr} {pos : Pos} {fs : Rho → Option (List D)} {p : Pos} (hg : Gl X "range") (hm : X.mg "range" = none) (ha : AE X [a, b, c] fs)
    (hs : starEach [a, b, c] X.env = (false, eval a X.env) :: starEach [b, c] X.env := by rfl) (hpl : (backTo pos (starEach [b, c] X.env)).any (·.1) = false := by rfl) :
    IE X tg (.Call (.Name "range" p) [a, b, c] [] pos) true (fRng rng3 fs) :=
  PI.weak (pi_range3 hg hm ha hs hpl) fun σ H R ⟨ρ, l, er, hf, q⟩ => by
    obtain ⟨ds, h1, h2⟩ := Option.bind_eq_some_iff.mp hf
    refine ⟨ρ, ds, er, h1, fun vs H1 s1 r1 => ?_⟩
    unfold rng3 at h2
    split at h2
    · rename_i i j c
      split at h2 <;> cases h2
      rename_i hj
      obtain ⟨b1, b2, b3, b4⟩ := cdec_iff.mp hj
      have := repL_three r1
      subst this
      exact ⟨i, j, c, _, rfl, ⟨b1, b2, b3, (Int.toNat_of_nonneg b4).symm⟩, q _ H1 _ s1 wk_rangeC (fun a z => z.elim) (fun _ a z => z)⟩
    · cases h2
end PL
/-! ### part PL17 -/
namespace PL
open PySem PySem.Spec PyProof.Rows L2
/-- max of a tuple of ints -/
theorem max_tupX {prog : Program} {w : World} {A : Around} {E : Value → Shared → Prop} {s : Shared} {l : Addr} {its : List Value} {ns : List Int} {Q : Value → Shared → Prop} (hh : A.handled = none) (hl : s.heap.IsTuple l its.toArray) (hi : IntsAre its ns) (hne : 0 < ns.length)
    (h : ∀ h' tk M t', (∀ b o, s.heap.get? b = some o → h'.get? b = some o) → M ∈ ns → (∀ a, a ∈ ns → a ≤ M) → Q (.int M t') { s with heap := h', toks := tk }) : wpAny (model prog w) A (call (.builtin "max") [.ref l]) Q E s := by
  obtain ⟨xs, e⟩ := hi.allInts.items
  have hn : numsOf (intItems xs).toList = ns := by rw [← e]; exact hi.numsOf
  rw [nums_intItems] at hn
  subst hn
  rw [e] at hl
  have hz : 0 < xs.size := by simpa using hne
  have hlt : l < s.heap.objs.size := by obtain ⟨_, e, _⟩ := hl; exact Heap.lt_size e
  refine call_max_walk (wpAny_pyIter_tuple hl ?_)
  refine ⟨_, [_, l], [_], _, _, _, _, rfl, Walks.tuple (A := A.in1) hh _ l (Nat.ne_of_lt hlt) (intItems xs), ⟨⟨_, Heap.get?_push_size _ rfl, rfl, rfl⟩, hl.push _⟩, fun c hc => ?_, by simpa [intItems] using hz, CmpOf.ints_gt (numAt xs) (fun _ _ => intItems_at), fun v h' tk hP hk => ?_⟩
  · show c < (s.heap.push _).objs.size
    rw [Heap.size_push]
    rcases List.mem_cons.mp hc with rfl | hc
    · exact Nat.lt_succ_self _
    · rcases List.mem_cons.mp hc with rfl | hc
      · exact Nat.lt_succ_of_lt hlt
      · cases hc
  · have hold : ∀ c o, s.heap.get? c = some o → h'.get? c = some o := fun c o e => by
      refine hk c o (fun hm => ?_) (Heap.get?_push_of_some _ e)
      rcases List.mem_cons.mp hm with e1 | hm
      · exact absurd (e1 ▸ Heap.lt_size e) (Nat.lt_irrefl _)
      · cases hm
    have hP' : (intItems xs)[argBest (fun i j => decide (numAt xs i > numAt xs j)) (xs.size - 1)]? = some v := by simpa [intItems] using hP
    obtain ⟨t, rfl⟩ := intItems_at hP'
    obtain ⟨h1, h2⟩ := argBest_gt (numAt xs) (xs.size - 1)
    refine h h' tk _ t hold ?_ fun a ha => ?_
    · rw [numAt_eq]; exact PySem.getD_mem (by rw [List.length_map, Array.length_toList]; omega)
    · obtain ⟨j, hj, rfl⟩ := mem_getD ha
      rw [List.length_map, Array.length_toList] at hj
      rw [← numAt_eq]; exact h2 j (by omega)
def rMaxT (K : PySem.W.Frag) : List V → Hp → VK → Prop := fun vs H Q => ∃ (a : Addr) (ns : List Int), vs = [V.ref a] ∧ SqT K H a (ns.map V.int) ∧ 0 < ns.length ∧ ∀ m, m ∈ ns → (∀ y, y ∈ ns → y ≤ m) → Q (.int m) H
theorem cr_maxT {X : Cx} (hc : X.calm = true) : CallR X (.builtin "max") (rMaxT X.K) := by
  intro pins s σ H vs us Q I r h
  obtain ⟨a, ns, rfl, hs, hne, q⟩ := h
  obtain ⟨its, rv, hl, _⟩ := I.tuple hs
  rw [Vals.ref1 r]
  exact max_tupX (its := its) (I.ok.hd hc) hl rv.ints hne fun h' tk m t' hk h1 h2 => ⟨.int _, H, I.kept hk, ⟨_, rfl⟩, q m h1 h2⟩
def maxL : Int → List Int → Int
  | m, [] => m
  | m, x :: r => maxL (if m < x then x else m) r
theorem maxL_mem : ∀ (l : List Int) (m : Int), maxL m l ∈ m :: l
  | [], m => by simp [maxL]
  | x :: r, m => by
    have := maxL_mem r (if m < x then x else m)
    simp only [maxL]
    rcases List.mem_cons.mp this with h | h
    · rw [h]; split <;> simp
    · simp [h]
theorem maxL_ge : ∀ (l : List Int) (m : Int), ∀ y ∈ m :: l, y ≤ maxL m l
  | [], m => by simp [maxL]
  | x :: r, m => by
    have ih := maxL_ge r (if m < x then x else m)
    intro y hy
    simp only [maxL]
    have h0 := ih _ List.mem_cons_self
    rcases List.mem_cons.mp hy with rfl | hy
    · split at h0 <;> split <;> omega
    · rcases List.mem_cons.mp hy with rfl | hy
      · split at h0 <;> split <;> omega
      · exact ih y (by simp [hy])
def gMaxT : D → Option D
  | .tup xs => (intsOf xs).bind fun ns => match ns with
    | [] => none
    | n :: r => some (.int (maxL n r))
  | _ => none
theorem rul_maxT {K : PySem.W.Frag} : RulU K gMaxT (rMaxT K) := fun dx d x H Q r h q => by
  cases dx <;> simp only [gMaxT, reduceCtorEq] at h
  obtain ⟨ns, h1, h2⟩ := Option.bind_eq_some_iff.mp h
  obtain ⟨a, vs, rfl, ha, ra⟩ := repW_tup r
  rw [intsOf_eq h1] at ra
  rw [repL_intsV ra] at ha
  cases ns with
  | nil => simp at h2
  | cons n ns =>
    cases h2
    refine ⟨a, n :: ns, rfl, ha, by simp, fun m h3 h4 => ?_⟩
    have e : m = maxL n ns := Int.le_antisymm (maxL_ge ns n m h3) (h4 _ (maxL_mem ns n))
    rw [e]
    exact q _ H (Same.refl H) (RepM.of repF_int)
section
variable {X : Cx} {a : Expr} {fa : Rho → Option D} {pos : Pos}
theorem fe_maxT {p : Pos} (hc : X.calm = true) (hg : Gl X "max") (hm : X.mg "max" = none) (ha : WE X a fa) (he : starEach [a] X.env = (false, eval a X.env) :: starEach [] X.env := by rfl) (hpl : (backTo pos (starEach [] X.env)).any (·.1) = false := by rfl) :
    FE X (.Call (.Name "max" p) [a] [] pos) (u1 gMaxT fa) :=
  fe_of_plain (fun x d h ds => by
      cases x <;> simp only [gMaxT, reduceCtorEq] at h
      obtain ⟨ns, _, h2⟩ := Option.bind_eq_some_iff.mp h
      cases ns with
      | nil => simp at h2
      | cons n ns => cases h2; exact fun z => nomatch z)
    (me_callB (id := "max") (cr_maxT hc) rul_maxT hg hm (by decide +kernel) ha (by decide) (by decide) he hpl)
end
end PL
/-! ### part PLE -/
namespace PySem
open PySem.Calls PyProof.Rows
/-- enumerate(v), v told by what its iterator draws -/
theorem meets_enumerate_new1B {v : Value} {o : Obj} {H : Heap → Prop} (B : Begins v o H) :
    Meets (Builtin.«enumerate.__new__» ⟨[.type "enumerate", v], []⟩) (fun _ R s => H s.heap ∧
      R (.ok (.ret (.ref (s.heap.push o).objs.size))) { s with heap := (s.heap.push o).push { cls := .type "enumerate", data := .fields #[.none, .bool false, .ref s.heap.objs.size, rawInt 0, .none, .none] } }) :=
  .of_wp fun prog w A R s h => by
    obtain ⟨hp, g, d, tk, os⟩ := s; obtain ⟨h1, h⟩ := h
    have hsub := sub_enumerate
    have q1 : ∀ {A' : Around} {E : Value → Shared → Prop} {Q : Value → Shared → Prop}, Q (.ref hp.objs.size) ⟨hp.push o, g, d, tk, os⟩ → wpAny (model prog w) A' (pyIter v) Q E ⟨hp, g, d, tk, os⟩ :=
      fun q => B.iter prog w _ _ ⟨hp, g, d, tk, os⟩ _ h1 q
    wp_walk using q1
    refine wpAny_stack_any fun st => wpAny_pure ?_
    split
    · rename_i c _ _ _ _ _
      cases (c == Value.type "enumerate")
      · wp_walk using q1
        exact ⟨_, rfl, h⟩
      · wp_walk using q1
        exact ⟨_, rfl, h⟩
    · wp_walk using q1
      exact ⟨_, rfl, h⟩
theorem call_enumerate_1B {prog : Program} {w : World} {A : Around} {E : Value → Shared → Prop} {s : Shared} {v : Value} {o : Obj} {H : Heap → Prop} {Q : Value → Shared → Prop} (B : Begins v o H) (h1 : H s.heap)
    (h : ∀ h', IsEnum h' (s.heap.objs.size + 1) s.heap.objs.size 0 .none → h'.get? s.heap.objs.size = some o → h'.objs.size = s.heap.objs.size + 2 →
      (∀ b o, s.heap.get? b = some o → h'.get? b = some o) → Q (.ref (s.heap.objs.size + 1)) { s with heap := h' }) :
    wpAny (model prog w) A (call (.type "enumerate") [v]) Q E s := by
  refine callType_new F.called_enumerate (by decide) (F.typeCall_enumerate_1 _) (F.newCall_enumerate_1 _) (fun obj => F.args_object_init_2 obj _) F.entry_enumerate_new
    (meets_enumerate_new1B B) ⟨h1, ?_⟩
  have hz : (s.heap.push o).objs.size = s.heap.objs.size + 1 := Heap.size_push ..
  show _ ∧ _
  rw [hz]
  have he : IsEnum ((s.heap.push o).push { cls := .type "enumerate", data := .fields #[.none, .bool false, .ref s.heap.objs.size, rawInt 0, .none, .none] }) (s.heap.objs.size + 1) s.heap.objs.size 0 .none := by
    have := Heap.get?_push_size (s.heap.push o) (o := { cls := .type "enumerate", data := .fields #[.none, .bool false, .ref s.heap.objs.size, rawInt 0, .none, .none] }) rfl
    rw [hz] at this; exact this
  refine ⟨⟨_, he, rfl⟩, h _ he (Heap.get?_push_of_some _ (Heap.get?_push_size _ B.free)) (by rw [Heap.size_push, hz]) fun b o x => Heap.get?_push_of_some _ (Heap.get?_push_of_some _ x)⟩
end PySem
namespace PL
open PySem PySem.Spec PyProof.Rows L2
/-! ### enumerate of a list or a tuple -/
def IteM (K : PySem.W.Frag) (k : Bool) (a : Addr) : It :=
  ⟨fun i H => ∃ (xs : List V) (x : V), sSrc K k H a xs ∧ xs[i]? = some x, fun i H v H' => ∃ T x, v = .ref T ∧ H T = none ∧ H' = upd H T (.tup [.int (i : Nat), x]) ∧ ∀ xs, sSrc K k H a xs → xs[i]? = some x, fun i H => ∃ xs : List V, sSrc K k H a xs ∧ xs.length = i⟩
theorem turn_enumM {P : Program} {w : World} {K : PySem.W.Frag} {elts : List Expr} {kk : Nat} {tpos : Pos} {k : Bool} {a e it : Addr} (hae : a ≠ e) (hai : a ≠ it) :
    Turn P w K (.Tuple elts kk tpos) (IteM K k a) [e, it] e (fun i h => (∃ old, IsEnum h e it ((i : Nat) : Int) old) ∧ sItr k h it a i ∧ e ≠ it) where
  mem := by simp
  obj := fun i h st b hb => by
    obtain ⟨⟨old, he⟩, hi, _⟩ := st
    have e' : b = e ∨ b = it := by simpa using hb
    rcases e' with z | z
    · rw [z]; exact ⟨_, he, fun v q => nomatch q⟩
    · rw [z]; exact hi.obj
  keep := fun i h h' st k => let ⟨⟨old, he⟩, hi, hne⟩ := st; ⟨⟨old, k e (by simp) _ he⟩, hi.at_ fun o q => k it (by simp) o q, hne⟩
  item := by
    intro X hP hw hK hc i pins s σ H E I hf st hg
    subst hP hw hK
    obtain ⟨⟨old, he⟩, hit, hne⟩ := st
    obtain ⟨xs, x, hq, hx⟩ := hg
    obtain ⟨its, rv, p⟩ := inv_src I hq
    obtain ⟨u, hu, ru⟩ := rv.get hx
    have hel : e < s.heap.objs.size := Heap.lt_size he
    have hil : it < s.heap.objs.size := by obtain ⟨_, q, _⟩ := hit.obj; exact Heap.lt_size q
    have hi1 : i < its.toArray.size := by
      have := (List.getElem?_eq_some_iff.mp hu).1
      simpa using this
    have hh : X.A.in1.handled = none := I.ok.hd hc
    refine wpAny_pyNext_enum_itemC (sDraws (prog := X.prog) (w := X.w) (A := X.A.in1) k hh it a hai its.toArray) he ⟨hit, p⟩ hi1 hne (by simp [hne, Ne.symm hae]) fun v h' tk hP ho hit' hT hsz hk => ?_
    have ev : v = u := by simpa [hu] using hP.symm
    subst ev
    refine ⟨_, rfl, wpAny_letOwnedTupleGo_enum (s := { s with heap := h', toks := tk + 1 }) ho fun h'' he' sb => ?_⟩
    have hT2 : h''.get? s.heap.objs.size = some { cls := .type "tuple", data := .seq #[.int i tk, v] } := (sb.2 _ (Nat.ne_of_gt hel)).trans hT
    have new : ObjOk X.prog X.w (upd H s.heap.objs.size (.tup [.int (i : Nat), x])) h'' s.heap.objs.size (.tup [.int (i : Nat), x]) :=
      ⟨by show 2 ≤ sizeLine; decide, [.int i tk, v], .cons ⟨_, rfl⟩ (.cons ru .nil), ⟨_, hT2, rfl, _, rfl⟩⟩
    have I1 : Inv X pins σ (upd H s.heap.objs.size (.tup [.int (i : Nat), x])) { s with heap := h'', toks := tk + 1 } :=
      I.turnedNew (t' := tk + 1) (ch := [e, it]) (fun b ob hb q => (sb.2 b (fun z => hb (by simp [z]))).trans (hk b ob (fun z => hb (by simp [z])) (fun z => hb (by simp [z])) q)) hf (Nat.le_refl _) new
    refine ⟨.ref s.heap.objs.size, _, I1, rfl, ⟨_, x, rfl, I.hok.fresh (Nat.le_refl _), rfl, fun ys hy => by rw [inv_srcinj I hy hq]; exact hx⟩, ⟨⟨v, ?_⟩, hit'.1.at_ fun o q => (sb.2 it (Ne.symm hne)).trans q, hne⟩, fun b hb => ?_⟩
    · have e1 : ((i + 1 : Nat) : Int) = (i : Int) + 1 := by omega
      rw [e1]; exact he'
    · have hb' : b < s.heap.objs.size := by
        have e' : b = e ∨ b = it := by simpa using hb
        rcases e' with z | z
        · rw [z]; exact hel
        · rw [z]; exact hil
      rw [upd_ne (Nat.ne_of_lt hb')]
      exact (hf b hb).1
  done := by
    intro X hP hw hK hc i pins s σ H E I hf st hg
    subst hP hw hK
    obtain ⟨⟨old, he⟩, hit, hne⟩ := st
    obtain ⟨xs, hq, hx⟩ := hg
    obtain ⟨its, rv, p⟩ := inv_src I hq
    obtain ⟨f0, f1, f2, f3, f4, f5⟩ := hf it (by simp)
    have hl := rv.length
    have hn : its.toArray.size = i := by simp; omega
    subst hn
    have hh : X.A.in1.handled = none := I.ok.hd hc
    exact wpAny_pyNext_enum_endD (sDraws (prog := X.prog) (w := X.w) (A := X.A.in1) k hh it a hai its.toArray) he ⟨hit, p⟩ fun h' eb => ⟨rfl, I.turned (t' := s.toks) (fun b o hb q => eb b o hb q) f0 f1 f3 f4 f5⟩
  self := fun A i s Q E st h => let ⟨⟨_, he⟩, _⟩ := st; wpAny_pyIter_enum he h
def iEnumM (K : PySem.W.Frag) (ta : TA) : TI := fun σ H R => ta σ H fun vs H1 => ∃ a xs k, vs = [.ref a] ∧ sSrc K k H1 a xs ∧ R (IteM K k a) H1
theorem pi_enumM {X : Cx} {e : Expr} {ta : TA} {p pos tpos : Pos} {elts : List Expr} {kk : Nat} (hg : Gl X "enumerate") (hm : X.mg "enumerate" = none) (ha : PA X [e] ta) (hs : starEach [e] X.env = [(false, eval e X.env)] := by rfl) :
    PI X (.Tuple elts kk tpos) (.Call (.Name "enumerate" p) [e] [] pos) (iEnumM X.K ta) := by
  refine ⟨fun pins s σ H R I h => ?_⟩
  refine Call_ (ld_blt I hg hm boot_enumerate (PyProof.Rows.callWith_type1 (thn (ha.run pos pins s σ H _ I h) fun us s1 ⟨vs, H1, I1, r1, q1⟩ => ?_) hs rfl))
  obtain ⟨a, xs, k, ex, hq, q⟩ := q1
  subst ex
  cases r1 with
  | cons r rr =>
    cases rr
    cases r
    obtain ⟨its, rv, p'⟩ := inv_src I1 hq
    refine call_enumerate_1B (sBegins k a its.toArray) p' fun h' he hit hsz hk => wpAny_pyIter_enum he ?_
    have I2 : Inv X pins σ H1 { s1 with heap := h' } := I1.kept (t' := s1.toks) hk
    have hal := p'.lt
    refine ⟨s1.heap.objs.size + 1, [s1.heap.objs.size + 1, s1.heap.objs.size], _, _, H1, rfl, I2, turn_enumM (Nat.ne_of_lt (Nat.lt_succ_of_lt hal)) (Nat.ne_of_lt hal), ⟨⟨.none, he⟩, sItr0 hit, Nat.succ_ne_self _⟩, fun b hb => ?_, q⟩
    have e' : b = s1.heap.objs.size + 1 ∨ b = s1.heap.objs.size := by simpa using hb
    have hle : s1.heap.objs.size ≤ b := by
      rcases e' with z | z
      · rw [z]; exact Nat.le_add_right _ _
      · rw [z]; exact Nat.le_refl _
    exact I1.fpOk hle (I1.hok.fresh hle)
/-- pairs of places and items -/
def enumFrom : Nat → List D → List D
  | _, [] => []
  | i, x :: r => .tup [.int (i : Nat), x] :: enumFrom (i + 1) r
theorem enumFrom_get : ∀ (l : List D) (k i : Nat), (enumFrom k l)[i]? = l[i]?.map fun x => .tup [.int ((k + i : Nat) : Int), x]
  | [], k, i => by simp [enumFrom]
  | x :: r, k, 0 => by simp [enumFrom]
  | x :: r, k, i + 1 => by simp [enumFrom, enumFrom_get r, Nat.add_assoc, Nat.add_comm 1]
theorem enumFrom_len : ∀ (l : List D) (k : Nat), (enumFrom k l).length = l.length
  | [], _ => rfl
  | x :: r, k => by simp [enumFrom, enumFrom_len r]
theorem wk_enum {K : PySem.W.Frag} {H : Hp} {k : Bool} {a : Addr} {vs : List V} {ds : List D} (h : ∀ H1, Ext H H1 → sSrc K k H1 a vs) (r : RepL K H ds vs) : WkD K (IteM K k a) H (fun _ => False) (enumFrom 0 ds) where
  go := fun i H1 hi e _ => by
    rw [enumFrom_len] at hi
    have hi' : i < vs.length := by rw [r.length]; exact hi
    exact ⟨vs, vs[i], h H1 e, List.getElem?_eq_getElem hi'⟩
  stop := fun H1 e _ => ⟨vs, h H1 e, by rw [r.length, enumFrom_len]⟩
  yld := fun i H1 x H' d hd e _ y => by
    obtain ⟨T, z, rfl, hT, rfl, y⟩ := y
    have q := y vs (h H1 e)
    rw [enumFrom_get] at hd
    obtain ⟨w, h1, rfl⟩ := Option.map_eq_some_iff.mp hd
    obtain ⟨v, h2, h3⟩ := r.get h1
    rw [q] at h2; cases h2
    refine ⟨same_new hT, repF_tup (.of upd_same) ?_⟩
    rw [Nat.zero_add]
    exact RepL.cons repF_int (RepL.one ((h3.ext e).ext (Ext.of (same_new hT))))
section
variable {X : Cx} {a : Expr} {fa : Rho → Option D}
def fEnum (fa : Rho → Option D) : Rho → Option (List D) := fun ρ => (fa ρ).bind fun x => if noStr x = true then (asSeq x).map (enumFrom 0) else none
theorem ie_enum {p pos tpos : Pos} {elts : List Expr} {kk : Nat} (hg : Gl X "enumerate") (hm : X.mg "enumerate" = none) (ha : FE X a fa) (hs : starEach [a] X.env = (false, eval a X.env) :: starEach [] X.env := by rfl)
    (hs2 : starEach [a] X.env = [(false, eval a X.env)] := by rfl) : IE X (.Tuple elts kk tpos) (.Call (.Name "enumerate" p) [a] [] pos) true (fEnum fa) :=
  PI.weak (pi_enumM hg hm (pa_cons ha pa_nil hs) hs2) fun σ H R ⟨ρ, l, er, hf, q⟩ => by
    obtain ⟨x, h1, h2⟩ := Option.bind_eq_some_iff.mp hf
    refine ⟨ρ, x, er, h1, fun v H1 s1 r1 => ?_⟩
    split at h2
    · rename_i hn
      obtain ⟨xs, h3, rfl⟩ := Option.map_eq_some_iff.mp h2
      obtain ⟨k1, p1, vs, rfl, rv, w1⟩ := src_of r1 h3 (noStr_ok hn)
      exact ⟨p1, vs, k1, rfl, w1 H1 (Ext.refl _), q _ H1 (fun _ => False) s1 (wk_enum w1 rv) (fun a z => z.elim) (fun _ a z => z)⟩
    · cases h2
end
end PL
/-! ### part PL18 -/
namespace HT
open PySem PySem.Spec PyProof.Rows
section
variable {prog : Program} {w : World} {A : Around} {E : Value → Shared → Prop} {s : Shared}
theorem sliceApplied_rev {sl : Addr} {vl vu vs : Value} {n : Nat} {Q : Int × Int × Nat → Shared → Prop} (hs : s.heap.IsSliceOf sl vl vu vs) (pl : IsPart vl none) (pu : IsPart vu none) (ps : IsPart vs (some (-1)))
    (h : Q ((n : Int) - 1, -1, n) s) : wpAny (model prog w) A (Builtin.Slice.sliceApplied (.ref sl) (pure (n : Int))) Q E s := by
  obtain ⟨os, hos, hcs, hds⟩ := id hs
  unfold Builtin.Slice.sliceApplied Builtin.Slice.sliceFields
  refine wpAny_bind (wpAny_bind (wpAny_field hos hds (x := vl) rfl (wpAny_bind (wpAny_field hos hds (x := vu) rfl (wpAny_bind (wpAny_field hos hds (x := vs) rfl (wpAny_pure ?_)))))))
  refine wpAny_bind (slicePart_ ps ?_)
  show wpAny _ _ (if ((-1 : Int) == 0) = true then _ else _) _ _ s
  rw [if_neg (by decide)]
  refine wpAny_bind (slicePart_ pl (wpAny_bind (slicePart_ pu (wpAny_bind (wpAny_pure ?_)))))
  show wpAny _ _ (match Builtin.Slice.sliceAdjust none none (-1) (n : Int) with | (lo, hi) => pure (lo, (-1 : Int), Builtin.Slice.slicePlaces lo hi (-1))) _ _ s
  have e : Builtin.Slice.sliceAdjust none none (-1) (n : Int) = ((n : Int) - 1, -1) := rfl
  rw [e]
  show wpAny _ _ (pure ((n : Int) - 1, (-1 : Int), Builtin.Slice.slicePlaces ((n : Int) - 1) (-1) (-1))) _ _ s
  have e2 : Builtin.Slice.slicePlaces ((n : Int) - 1) (-1) (-1) = n := by
    unfold Builtin.Slice.slicePlaces
    rw [if_neg (by decide)]
    by_cases hn : (-1 : Int) < (n : Int) - 1
    · rw [if_pos hn]
      have : ((n : Int) - 1 - -1 - 1) / (- -1) + 1 = (n : Int) := by
        rw [show (- -1 : Int) = 1 by decide, Int.ediv_one]; omega
      rw [this]; omega
    · rw [if_neg hn]; omega
  rw [e2]
  exact wpAny_pure h
theorem pick_rev (xs : Array Value) : ((List.range xs.size).filterMap fun (m : Nat) => xs[(((xs.size : Int) - 1) + (m : Int) * -1).toNat]?).toArray = xs.toList.reverse.toArray := by
  rw [← PySem.W.krv_pick]
  unfold PySem.slicePick
  rw [PySem.W.krv_bounds]
  show _ = ((sliceRange ((xs.size : Int) - 1) (-1) (-1)).filterMap (xs[·]?)).toArray
  rw [PySem.W.krv_sliceRange, List.filterMap_map]
  congr 1
  have key : ∀ l : List Nat, (∀ m ∈ l, m < xs.size) → l.filterMap (fun (m : Nat) => xs[(((xs.size : Int) - 1) + (m : Int) * -1).toNat]?) = l.filterMap ((fun x => xs[x]?) ∘ fun k => xs.size - 1 - k) := fun l => by
    induction l with
    | nil => intro _; rfl
    | cons m l ih =>
      intro h
      have hm := h m (by simp)
      have e : (((xs.size : Int) - 1) + (m : Int) * -1).toNat = xs.size - 1 - m := by omega
      rw [List.filterMap_cons, List.filterMap_cons, ih fun k hk => h k (by simp [hk])]
      simp only [e, Function.comp]
  exact key _ fun m hm => List.mem_range.mp hm
theorem getItem_tuple_rev {t sl : Addr} {items : Array Value} {vl vu vs : Value} {Q : Value → Shared → Prop} (ht : IsTup s.heap t items) (hs : s.heap.IsSliceOf sl vl vu vs) (pl : IsPart vl none) (pu : IsPart vu none) (ps : IsPart vs (some (-1)))
    (h : Q (.ref s.heap.objs.size) { s with heap := s.heap.push { cls := .type "tuple", data := .seq items.toList.reverse.toArray } })
    (hsz : items.size ≤ sizeLine) : wpAny (model prog w) A (getItem (.ref t) (.ref sl)) Q E s := by
  have htake : sizeOk (.seq items.toList.reverse.toArray) := by
    show items.toList.reverse.toArray.size ≤ sizeLine
    rw [List.size_toArray, List.length_reverse, Array.length_toList]
    omega
  obtain ⟨os, hos, hcs, hds⟩ := id hs
  have hTs : s.TypeIs (.ref sl) "slice" := ⟨os, hos, hcs⟩
  unfold getItem
  try with_reducible refine wpAny_holding ?_
  first | refine wpAny_bind (wpAny_pure ?_) | skip
  refine wpAny_bind (wpAny_sequenceKey ht.typeIs (by decide) ?_)
  refine wpAny_bind (wpAny_callSpecial?_slot (name := Str.ofString "__getitem__") ht.typeIs PyProof.Rows.slot_tuple_getitem
    (wpAny_call_entry PyProof.Rows.slot_tuple_getitem ht.typeIs entry_tuple_getitem ?_ (args_tuple_getitem _ _)))
  show wpAny _ _ (Builtin.Tuple.tupleItemsOf (.ref t) >>= _) _ _ s
  refine wpAny_bind (tupleItemsOf_ ht ?_)
  refine wpAny_bind (wpAny_typeOf hTs ?_)
  rw [if_pos (by decide)]
  refine wpAny_bind (sliceApplied_rev hs pl pu ps ?_)
  have hno : ¬ ((((items.size : Int) - 1) == 0 && (-1 : Int) == 1 && items.size == items.size) = true) := by
    intro q
    rw [Bool.and_eq_true, Bool.and_eq_true] at q
    exact absurd q.1.2 (by decide)
  show wpAny _ _ (if (((items.size : Int) - 1) == 0 && (-1 : Int) == 1 && items.size == items.size) = true then _ else _) _ _ s
  rw [if_neg hno, pick_rev]
  first
    | exact wpAny_bind (m := Builtin.Tuple.tupleExact _) (wpAny_newObj_type (wpAny_pure ⟨_, rfl, wpAny_pure h⟩) htake)
    | exact wpAny_bind (m := Builtin.Tuple.tupleExact _) (wpAny_newObj_type (wpAny_bind (wpAny_pure (wpAny_pure ⟨_, rfl, wpAny_pure h⟩))) htake)
    | exact wpAny_bind (wpAny_bind (m := Builtin.Tuple.tupleExact _) (wpAny_newObj_type (wpAny_pure (wpAny_pure ⟨_, rfl, wpAny_pure h⟩)) htake))
    | exact wpAny_bind (wpAny_bind (m := Builtin.Tuple.tupleExact _) (wpAny_newObj_type (wpAny_pure ⟨_, rfl, wpAny_pure h⟩) htake))
end
end HT
namespace PL
open PySem PySem.Spec PyProof.Rows L2
/-! ### xs[::-1] of a list or a tuple -/
section
variable {X : Cx}
def tRevM (K : PySem.W.Frag) (te : TE) : TE := fun σ H Q => te σ H fun x H1 => ∃ a xs, x = .ref a ∧ ((SqL K H1 a xs ∧ ∀ p, H1 p = none → Q (.ref p) (upd H1 p (.lst xs.reverse))) ∨ (SqT K H1 a xs ∧ ∀ p, H1 p = none → Q (.ref p) (upd H1 p (.tup xs.reverse))))
theorem pe_revM {e : Expr} {te : TE} {k : Nat} {p1 p2 p3 pos : Pos} (he : PE X e te) : PE X (.Subscript e (.Slice none none (some (.UnaryOp .USub (.Constant (.int 1) k p1) p2)) p3) pos) (tRevM X.K te) := by
  refine ⟨fun pins s σ H Q I h => ?_⟩
  refine Subscript_ (thn (he.run pins s σ H _ I h) fun v s1 ⟨x, H1, I1, r1, q1⟩ => ?_)
  obtain ⟨a, xs, ex, q⟩ := q1
  subst ex
  cases r1
  have hst : PO X (some (.UnaryOp .USub (.Constant (.int 1) k p1) p2)) (tPart (tUn (rU fun i => .int (-i)) (tC (.int 1)))) := po_some (pe_un un_neg pe_int)
  refine wpAny_Slice (thn (po_none.run pins s1 σ H1 (fun o H2 => o = none ∧ H2 = H1) I1 ⟨rfl, rfl⟩) fun vl s2 ⟨l, H2, I2, pl, el, e2⟩ => ?_)
  subst el e2
  refine thn (po_none.run pins s2 σ H2 (fun o H3 => o = none ∧ H3 = H2) I2 ⟨rfl, rfl⟩) fun vu s3 ⟨u, H3, I3, pu, eu, e3⟩ => ?_
  subst eu e3
  refine thn (hst.run pins s3 σ H3 (fun o H4 => o = some (-1) ∧ H4 = H3) I3 ⟨1, rfl, -1, rfl, rfl, rfl⟩) fun vs s4 ⟨o, H4, I4, ps, eo, e4⟩ => ?_
  subst eo e4
  have I5 : Inv X pins σ H4 { s4 with heap := s4.heap.push { cls := .type "slice", data := .fields #[vl, vu, vs] } } := I4.kept (t' := s4.toks) fun b ob q => Heap.get?_push_of_some _ q
  rcases q with ⟨hx, q⟩ | ⟨hx, q⟩
  · obtain ⟨its, r, ht, hz⟩ := I5.list hx
    have hlen := r.length
    show wpAny (model X.prog X.w) X.A (subscriptTail e (.Slice none none (some (.UnaryOp .USub (.Constant (.int 1) k p1) p2)) p3) (.ref a) (.ref s4.heap.objs.size)) (EP X pins σ Q) X.xe { s4 with heap := s4.heap.push { cls := .type "slice", data := .fields #[vl, vu, vs] } }
    refine tail_any (ops := [.ref a, .ref s4.heap.objs.size]) ht.isList.typeIs (PySem.slot_list_getitem.lookup) ?_ (by with_unfolding_all rfl)
    refine wpAny_getItem_list_slice ht.isList (Heap.IsSliceOf.new _ vl vu vs) pl pu ps (by decide) ?_ (by rw [List.size_toArray]; omega)
    rw [PySem.W.krv_pick]
    refine ⟨.ref _, _, I5.laid (t' := s4.toks) (o := .lst xs.reverse) (fun b ob q => Heap.get?_push_of_some _ q) (Nat.le_refl _) ?_, rfl, q _ (I5.hok.fresh (Nat.le_refl _))⟩
    exact ⟨by rw [List.length_reverse]; exact hz, _, 0, r.reverse, Heap.get?_push_size _ rfl⟩
  · obtain ⟨its, r, ht, hz⟩ := I5.tuple hx
    have hlen := r.length
    show wpAny (model X.prog X.w) X.A (subscriptTail e (.Slice none none (some (.UnaryOp .USub (.Constant (.int 1) k p1) p2)) p3) (.ref a) (.ref s4.heap.objs.size)) (EP X pins σ Q) X.xe { s4 with heap := s4.heap.push { cls := .type "slice", data := .fields #[vl, vu, vs] } }
    refine tail_any (ops := [.ref a, .ref s4.heap.objs.size]) ht.typeIs (PyProof.Rows.slot_tuple_getitem.lookup) ?_ (by with_unfolding_all rfl)
    refine HT.getItem_tuple_rev ht (Heap.IsSliceOf.new _ vl vu vs) pl pu ps ?_ (by rw [List.size_toArray]; omega)
    refine ⟨.ref _, _, I5.laid (t' := s4.toks) (o := .tup xs.reverse) (fun b ob q => Heap.get?_push_of_some _ q) (Nat.le_refl _) ?_, rfl, q _ (I5.hok.fresh (Nat.le_refl _))⟩
    exact ⟨by rw [List.length_reverse]; exact hz, _, r.reverse, IsTup.new _ _⟩
def gRev : D → Option D
  | .lst xs => some (.opn xs.reverse)
  | .tup xs => some (.tup xs.reverse)
  | _ => none
theorem me_rev {e : Expr} {f : Rho → Option D} {k : Nat} {p1 p2 p3 pos : Pos} (he : WE X e f) : ME X (.Subscript e (.Slice none none (some (.UnaryOp .USub (.Constant (.int 1) k p1) p2)) p3) pos) (u1 gRev f) :=
  PE.weak (pe_revM he) fun σ H Q ⟨ρ, d, er, hf, q⟩ => by
    obtain ⟨x, h1, h2⟩ := Option.bind_eq_some_iff.mp hf
    refine ⟨ρ, x, er, h1, fun v H1 s1 r1 => ?_⟩
    cases x <;> simp only [gRev, reduceCtorEq] at h2 <;> cases h2
    · obtain ⟨a, vs, rfl, ha, ra⟩ := repW_tup r1
      exact ⟨a, vs, rfl, .inr ⟨ha, fun p hp => q _ _ (s1.trans (same_new hp)) (RepM.of (repF_tup (.of upd_same) (ra.reverse.ext (Ext.of (same_new hp)))))⟩⟩
    · obtain ⟨a, vs, rfl, ha, ra⟩ := repW_lst r1
      exact ⟨a, vs, rfl, .inl ⟨.inl ha, fun p hp => q _ _ (s1.trans (same_new hp)) ⟨p, vs.reverse, rfl, s1.free hp, upd_same, ra.reverse.ext (Ext.of (same_new hp))⟩⟩⟩

/-! ### all, bool, isinstance with two types -/
def boolsOf : List D → Option (List Bool)
  | [] => some []
  | .bl b :: r => (boolsOf r).map (b :: ·)
  | _ :: _ => none
theorem boolsOf_eq : ∀ {l : List D} {bs : List Bool}, boolsOf l = some bs → l = bs.map .bl
  | [], ns, h => by simp [boolsOf] at h; subst h; rfl
  | d :: r, ns, h => by
    cases d <;> simp only [boolsOf, reduceCtorEq] at h
    obtain ⟨ms, h1, rfl⟩ := Option.map_eq_some_iff.mp h
    rw [boolsOf_eq h1]; rfl
theorem boolsOf_map : ∀ (ns : List Bool), boolsOf (ns.map .bl) = some ns
  | [] => rfl
  | n :: ns => by simp [boolsOf, boolsOf_map ns]
theorem repL_bools {K : PySem.W.Frag} {H : Hp} : ∀ {ns : List Bool} {vs : List V}, RepL K H (ns.map .bl) vs → vs = ns.map V.bl
  | [], vs, h => by simpa [RepL] using h
  | n :: ns, vs, h => by
    simp only [List.map_cons, RepL, RepF] at h
    obtain ⟨v, r, rfl, rfl, h2⟩ := h
    rw [repL_bools h2]; rfl
def gAll : D → Option D
  | .lst xs => (boolsOf xs).map fun bs => .bl (bs.all id)
  | _ => none
theorem rul_all {K : PySem.W.Frag} : RulU K gAll (rAll K) := fun dx d x H Q r h q => by
  cases dx <;> simp only [gAll, reduceCtorEq] at h
  obtain ⟨bs, h1, rfl⟩ := Option.map_eq_some_iff.mp h
  obtain ⟨a, vs, rfl, ha, ra⟩ := repW_lst r
  rw [boolsOf_eq h1] at ra
  rw [repL_bools ra] at ha
  exact ⟨a, bs, rfl, .inl ha, q _ H (Same.refl H) (RepM.of repF_bl)⟩
variable {a : Expr} {fa : Rho → Option D} {pos : Pos}
theorem fe_all {p : Pos} (hc : X.calm = true) (hg : Gl X "all") (hm : X.mg "all" = none) (ha : WE X a fa) (he : starEach [a] X.env = (false, eval a X.env) :: starEach [] X.env := by rfl) (hpl : (backTo pos (starEach [] X.env)).any (·.1) = false := by rfl) :
    FE X (.Call (.Name "all" p) [a] [] pos) (u1 gAll fa) :=
  fe_of_plain (fun x d h ds => by
      cases x <;> simp only [gAll, reduceCtorEq] at h
      obtain ⟨ns, _, rfl⟩ := Option.map_eq_some_iff.mp h
      exact fun z => nomatch z)
    (me_callB (id := "all") (cr_all hc) rul_all hg hm (by decide +kernel) ha (by decide) (by decide) he hpl)
def gBool : D → Option D
  | .int i => some (.bl (i != 0))
  | .bl b => some (.bl b)
  | _ => none
theorem rul_bool {K : PySem.W.Frag} : RulU K gBool (fun xs H Q => (∃ i, xs = [.int i] ∧ Q (.bl (i != 0)) H) ∨ ∃ k, xs = [.bl k] ∧ Q (.bl k) H) := fun dx d x H Q r h q => by
  cases dx <;> simp only [gBool, reduceCtorEq] at h
  · cases h
    have := repW_bl r
    subst this
    exact .inr ⟨_, rfl, q _ H (Same.refl H) (RepM.of repF_bl)⟩
  · cases h
    have := repW_int r
    subst this
    exact .inl ⟨_, rfl, q _ H (Same.refl H) (RepM.of repF_bl)⟩
theorem fe_bool1 {p : Pos} (hg : Gl X "bool") (hm : X.mg "bool" = none) (ha : WE X a fa) (he : starEach [a] X.env = (false, eval a X.env) :: starEach [] X.env := by rfl) (hpl : (backTo pos (starEach [] X.env)).any (·.1) = false := by rfl) :
    FE X (.Call (.Name "bool" p) [a] [] pos) (u1 gBool fa) :=
  fe_of_plain (fun x d h ds => by cases x <;> simp only [gBool, reduceCtorEq] at h <;> cases h <;> exact fun z => nomatch z)
    (me_callTy (id := "bool") call_bool1 rul_bool hg hm (by decide +kernel) ha (by decide) (by decide) he hpl)
def isT2 (T1 T2 : String) : D → Option D := fun d => (tyD d).bind fun n => (kitB n T1).bind fun b => (kitB n T2).map fun c => .bl (b || c)
theorem kit_any2 {K : PySem.W.Frag} {n T1 T2 : String} {b c : Bool} (h1 : kitB n T1 = some b) (h2 : kitB n T2 = some c) : PySem.W.kitAny K (.type n) [.type T1, .type T2] = some (b || c) := by
  refine kitAny_cons (kit_ty h1) (fun e => ?_) (fun e => by simp [e])
  subst e
  refine kitAny_cons (kit_ty h2) (fun e => ?_) (fun e => by simp [e])
  subst e
  exact kitAny_nil
theorem fe_isi2 {x1 x2 : Str} {T1 T2 : String} {kk : Nat} {p p2 p3 p4 : Pos} (hg : Gl X "isinstance") (hm : X.mg "isinstance" = none) (hg1 : Gl X x1) (hm1 : X.mg x1 = none) (hv1 : bootBuiltins x1 = some (.type T1)) (hg2 : Gl X x2) (hm2 : X.mg x2 = none) (hv2 : bootBuiltins x2 = some (.type T2)) (ha : WE X a fa)
    (hn1 : x1 ≠ "__name__" := by decide) (hdb1 : (x1 == ("__debug__" : Str)) = false := by decide) (hn2 : x2 ≠ "__name__" := by decide) (hdb2 : (x2 == ("__debug__" : Str)) = false := by decide)
    (hs1 : starEach [a, .Tuple [.Name x1 p2, .Name x2 p3] kk p4] X.env = (false, eval a X.env) :: starEach [.Tuple [.Name x1 p2, .Name x2 p3] kk p4] X.env := by rfl) (hs2 : starEach [.Tuple [.Name x1 p2, .Name x2 p3] kk p4] X.env = (false, eval (.Tuple [.Name x1 p2, .Name x2 p3] kk p4) X.env) :: starEach [] X.env := by rfl)
    (hs3 : starEach [.Name x1 p2, .Name x2 p3] X.env = (false, eval (.Name x1 p2) X.env) :: starEach [.Name x2 p3] X.env := by rfl) (hs4 : starEach [.Name x2 p3] X.env = (false, eval (.Name x2 p3) X.env) :: starEach [] X.env := by rfl)
    (hpl : (backTo pos (starEach [.Tuple [.Name x1 p2, .Name x2 p3] kk p4] X.env)).any (·.1) = false := by rfl) :
    FE X (.Call (.Name "isinstance" p) [a, .Tuple [.Name x1 p2, .Name x2 p3] kk p4] [] pos) (u1 (isT2 T1 T2) fa) :=
  PE.weak (pe_callB call_isiT hg hm (by decide +kernel) (pa_cons ha (pa_cons (pe_tup (pa_cons (pe_bltn (v := .ty T1) hg1 hm1 hv1 rfl hn1 hdb1) (pa_cons (pe_bltn (v := .ty T2) hg2 hm2 hv2 rfl hn2 hdb2) pa_nil hs4) hs3)) pa_nil hs2) hs1) (by decide) (by decide) hs1 hpl) fun σ H Q ⟨ρ, d, er, hf, q⟩ => by
    obtain ⟨y, h1, h2⟩ := Option.bind_eq_some_iff.mp hf
    obtain ⟨n, h3, h4⟩ := Option.bind_eq_some_iff.mp h2
    obtain ⟨b, h5, h6⟩ := Option.bind_eq_some_iff.mp h4
    obtain ⟨c, h7, rfl⟩ := Option.map_eq_some_iff.mp h6
    refine ⟨ρ, y, er, h1, fun v H1 s1 r1 => ⟨le_line (by simp), fun tp htp => ?_⟩⟩
    exact ⟨v, tp, [.ty T1, .ty T2], _, [.type T1, .type T2], b || c, rfl, upd_same, .cons (.ty T1) (.cons (.ty T2) .nil), tyX_of (r1.same (same_new htp)) h3, kit_any2 h5 h7, q _ _ (s1.trans (same_new htp)) repF_bl⟩
/-! ### sorted of texts -/
def strsOf : List D → Option (List Str)
  | [] => some []
  | .str b :: r => (strsOf r).map (b :: ·)
  | _ :: _ => none
theorem strsOf_eq : ∀ {l : List D} {bs : List Str}, strsOf l = some bs → l = bs.map .str
  | [], ns, h => by simp [strsOf] at h; subst h; rfl
  | d :: r, ns, h => by
    cases d <;> simp only [strsOf, reduceCtorEq] at h
    obtain ⟨ms, h1, rfl⟩ := Option.map_eq_some_iff.mp h
    rw [strsOf_eq h1]; rfl
theorem strsOf_map : ∀ (ns : List Str), strsOf (ns.map .str) = some ns
  | [] => rfl
  | n :: ns => by simp [strsOf, strsOf_map ns]
theorem repL_strs {K : PySem.W.Frag} {H : Hp} : ∀ {ns : List Str} {vs : List V}, RepL K H (ns.map .str) vs → vs = ns.map V.str
  | [], vs, h => by simpa [RepL] using h
  | n :: ns, vs, h => by
    simp only [List.map_cons, RepL, RepF] at h
    obtain ⟨v, r, rfl, rfl, h2⟩ := h
    rw [repL_strs h2]; rfl
theorem repL_strsV {K : PySem.W.Frag} {H : Hp} : ∀ {ns : List Str}, RepL K H (ns.map .str) (ns.map V.str)
  | [] => by simp [RepL]
  | n :: ns => by
    simp only [List.map_cons, RepL, RepF]
    exact ⟨_, _, rfl, rfl, repL_strsV⟩
def leS (x y : Str) : Bool := !ltCps y.cps.toList x.cps.toList
theorem leS_iff {x y : Str} : leS x y = true ↔ x.cps.toList ≤ y.cps.toList := by
  unfold leS
  rw [ltCps_eq, Bool.not_eq_true', decide_eq_false_iff_not, List.not_lt]
theorem leS_tot (x y : Str) : leS x y = true ∨ leS y x = true := by
  rw [leS_iff, leS_iff]; exact List.le_total _ _
theorem leS_tr (x y z : Str) : leS x y = true → leS y z = true → leS x z = true := by
  rw [leS_iff, leS_iff, leS_iff]; exact List.le_trans
theorem leS_anti {x y : Str} (h : leS x y = true) (h' : leS y x = true) : x = y := by
  rw [leS_iff] at h h'
  have := List.le_antisymm h h'
  cases x with
  | mk a =>
    cases y with
    | mk b =>
      have e : a = b := by
        have e1 : a.toList = b.toList := this
        cases a; cases b; simpa using e1
      rw [e]
def srtS (l : List Str) : List Str := srtB leS l
theorem srtS_perm (l : List Str) : (srtS l).Perm l := srtB_perm _ l
theorem srtS_pw (l : List Str) : (srtS l).Pairwise (fun a b => leS a b = true) := srtB_pw leS_tot leS_tr l
theorem risingS_pw : ∀ (l : List Str) (p : Str), risingS p l = true → (p :: l).Pairwise (fun a b => leS a b = true)
  | [], p, _ => by simp
  | x :: r, p, h => by
    simp only [risingS, Bool.and_eq_true] at h
    have ih := risingS_pw r x h.2
    refine List.pairwise_cons.mpr ⟨fun y hy => ?_, ih⟩
    have hpx : leS p x = true := h.1
    rcases List.mem_cons.mp hy with rfl | hy
    · exact hpx
    · exact leS_tr _ _ _ hpx ((List.pairwise_cons.mp ih).1 y hy)
theorem sortedS_pw : ∀ (l : List Str), sortedS l = true → l.Pairwise (fun a b => leS a b = true)
  | [], _ => by simp
  | x :: r, h => risingS_pw r x h
theorem srtS_uniq {l m : List Str} (p : m.Perm l) (h : sortedS m = true) : m = srtS l :=
  (p.trans (srtS_perm l).symm).eq_of_pairwise (fun a b _ _ h1 h2 => leS_anti h1 h2) (sortedS_pw m h) (srtS_pw l)
def gSortS : D → Option D
  | .lst xs => (strsOf xs).bind fun ss => if ss.length < 64 then some (.opn ((srtS ss).map .str)) else none
  | _ => none
theorem rul_sortS {K : PySem.W.Frag} : RulU K gSortS (rSortedS K) := fun dx d x H Q r h q => by
  cases dx <;> simp only [gSortS, reduceCtorEq] at h
  obtain ⟨ss, h1, h2⟩ := Option.bind_eq_some_iff.mp h
  split at h2
  · rename_i hl
    cases h2
    obtain ⟨a, vs, rfl, ha, ra⟩ := repW_lst r
    rw [strsOf_eq h1] at ra
    rw [repL_strs ra] at ha
    exact ⟨a, ss, rfl, .inl ha, hl, fun ys p hp hs hn => q _ _ (same_new hn) ⟨p, _, rfl, hn, upd_same, by rw [← srtS_uniq hp hs]; exact repL_strsV⟩⟩
  · cases h2
theorem me_sortS {p : Pos} (hg : Gl X "sorted") (hm : X.mg "sorted" = none) (ha : WE X a fa) (he : starEach [a] X.env = (false, eval a X.env) :: starEach [] X.env := by rfl) (hpl : (backTo pos (starEach [] X.env)).any (·.1) = false := by rfl) :
    ME X (.Call (.Name "sorted" p) [a] [] pos) (u1 gSortS fa) := me_callB (id := "sorted") cr_sortedS rul_sortS hg hm (by decide +kernel) ha (by decide) (by decide) he hpl
/-! ### a def without parameters -/
theorem me_call0 {x : Str} {p : Pos} {k : Nat} {f : Addr} {fd : FuncData} {F : List D → Option D} (G : FnOk X.prog X.w X.K X.mg X.base CX0 k f fd [] (spP 0 X.K F)) (hr : Room k X.A) (hg : Gl X x) (hm : X.mg x = some (.ref f)) (hk : PySem.W.keepIn X.K (.ref f) = true) (hb : Binds X.K fd [] [])
    (hdb : (x == ("__debug__" : Str)) = false := by decide) :
    ME X (.Call (.Name x p) [] [] pos) (fCall 0 F fsNil) := PE.weak (pe_call0 G hr hg hm hk hb .nil pass0 hdb) fun σ H Q ⟨ρ, d, er, hf, q⟩ => by
  have hF : F [] = some d := by simpa [fCall, fsNil] using hf
  show spP 0 X.K F ([] ++ []) H Q E0
  exact ⟨[], d, rfl, RepL.nil, hF, fun v H' s' r' => q v H' s' r'⟩
/-! ### no statement is reached -/
def gNever : Rho → Option Fl := fun _ => none
theorem ses_never {H0 : Hp} {st : List Stmt} : SEs X H0 st gNever := ⟨fun pins s σ H E I ⟨ρ, fl, er, hf, k⟩ => nomatch hf⟩
theorem se_never {H0 : Hp} {st : Stmt} : SE X H0 st gNever := ⟨fun pins s σ H E I ⟨ρ, fl, er, hf, k⟩ => nomatch hf⟩
end
end PL
/-! ### part PLS -/
namespace SetTxt
open PySem PySem.Spec PyProof.Rows L2
/-- how many texts differ among the first -/
def cntT (xs : List Str) : Nat → Nat
  | 0 => 0
  | i + 1 => if (xs.take i).any (· == xs.getD i Str.empty) = true then cntT xs i else cntT xs i + 1
theorem cntT_le (xs : List Str) : ∀ i, cntT xs i ≤ i
  | 0 => Nat.le_refl _
  | i + 1 => by
    have := cntT_le xs i
    simp only [cntT]
    split <;> omega
theorem cntT_nodup (xs : List Str) : ∀ i, i ≤ xs.length → (cntT xs i = i ↔ (xs.take i).Nodup)
  | 0, _ => by simp [cntT]
  | i + 1, hi => by
    have hil : i < xs.length := hi
    have ih := cntT_nodup xs i (by omega)
    have hle := cntT_le xs i
    have et : xs.take (i + 1) = xs.take i ++ [xs.getD i Str.empty] := by
      rw [List.take_add_one, List.getElem?_eq_getElem hil, List.getD_eq_getElem?_getD, List.getElem?_eq_getElem hil]; rfl
    rw [et, List.nodup_append]
    simp only [cntT]
    by_cases h : (xs.take i).any (· == xs.getD i Str.empty) = true
    · rw [if_pos h]
      constructor
      · intro e; omega
      · intro ⟨h1, h2, h3⟩
        obtain ⟨y, hy, e⟩ := List.any_eq_true.mp h
        exact absurd (eq_of_beq e) (h3 y hy _ (by simp))
    · rw [if_neg h]
      constructor
      · intro e
        refine ⟨ih.mp (by omega), by simp, fun a ha b hb e2 => h ?_⟩
        rw [List.mem_singleton] at hb
        subst hb
        exact List.any_eq_true.mpr ⟨a, ha, by simpa using e2⟩
      · intro ⟨h1, _, _⟩
        rw [ih.mpr h1]
section
variable {prog : Program} {w : World} {A : Around} {R : Result → Shared → Prop} {I : Addr} {fp wr : List Addr} {G : Array GenState → Array GenState → Prop} {n : Nat} {P : Nat → Value → Prop} {St : Nat → Shared → Prop}
theorem loopTxt (W : WalksS prog w A.in1 I fp wr G n P St) (S : Addr) (hSf : S ∉ fp) (xs : List Str) (hsz : xs.length = n) (hn1 : n ≤ 3000)
    (hval : ∀ i v, P i v → ∃ t, v = .str (xs.getD i Str.empty) t) :
    ∀ (k i : Nat) (s : Shared), n - i = k → i ≤ n → St i s →
      s.heap.SetOf (PySem.strKind prog w) S (fun k' => (xs.take i).any (· == k')) (cntT xs i) →
      (∀ s', Moved (S :: wr) G s s' → s'.heap.SetOf (PySem.strKind prog w) S (fun k' => (xs.take n).any (· == k')) (cntT xs n) → R (.ok (.ret .none)) s') →
      codeAny (model prog w) A (.builtin "set.update.loop" ⟨[.ref S, .ref I], []⟩) R s := by
  have hSw : S ∉ wr := fun h => hSf (W.sub _ h)
  have hsub : ∀ b ∈ wr, b ∈ S :: wr := fun b hb => List.mem_cons_of_mem _ hb
  intro k
  induction k with
  | zero =>
    intro i s hk hi hst hS hR
    have hin : i = n := by omega
    subst hin
    refine codeAny_builtin PyProof.Rows.F.entry_set_update_loop ?_
    rw [Around.under_plainId PyProof.Rows.F.plain_set_update_loop _]
    show wpAny _ A.in1 (pyNext (.ref I) >>= _) _ _ s
    refine wpAny_bind (W.done s _ _ hst fun s' hm => ?_)
    show wpAny _ A.in1 (ret Value.none) _ _ s'
    exact wpAny_pure (hR s' (hm.mono hsub) (by
      obtain ⟨o, es, ep, t, ho, rest⟩ := hS
      exact ⟨o, es, ep, t, hm.heap S _ hSw ho, rest⟩))
  | succ k ih =>
    intro i s hk hi hst hS hR
    have hlt : i < n := by omega
    have hci := cntT_le xs i
    refine codeAny_builtin PyProof.Rows.F.entry_set_update_loop ?_
    rw [Around.under_plainId PyProof.Rows.F.plain_set_update_loop _]
    show wpAny _ A.in1 (pyNext (.ref I) >>= _) _ _ s
    refine wpAny_bind (W.item i s _ _ hlt hst fun v s' hP hst' hm => ?_)
    obtain ⟨t, rfl⟩ := hval i v hP
    have hS' : s'.heap.SetOf (PySem.strKind prog w) S (fun k' => (xs.take i).any (· == k')) (cntT xs i) := by
      obtain ⟨o, es, ep, tb, ho, rest⟩ := hS
      exact ⟨o, es, ep, tb, hm.heap S _ hSw ho, rest⟩
    show wpAny _ A.in1 (holding [Value.str (xs.getD i Str.empty) t] (setAdd S (.str (xs.getD i Str.empty) t)) >>= _) _ _ s'
    refine wpAny_bind (wpAny_holding ?_)
    unfold setAdd
    refine wpAny_holding ?_
    refine wpAny_bind ((PySem.strKind prog w).pyHash (k := xs.getD i Str.empty) (strKind_is _ _ _ _) ?_)
    refine wpAny_setAddHashed_of (knd := PySem.strKind prog w) (s := { s' with toks := s'.toks + 1 }) (strKind_is _ _ _ _) rfl hS' (by unfold scanBound; omega) fun h' hsb hS2 => ?_
    have hSi : h'.SetOf (PySem.strKind prog w) S (fun k' => (xs.take (i + 1)).any (· == k')) (cntT xs (i + 1)) := by
      have hil : i < xs.length := by rw [hsz]; exact hlt
      have et : xs.take (i + 1) = xs.take i ++ [xs.getD i Str.empty] := by
        rw [List.take_add_one, List.getElem?_eq_getElem hil, List.getD_eq_getElem?_getD, List.getElem?_eq_getElem hil]; rfl
      refine SetOf_congr hS2 (fun k' => ?_) rfl
      rw [et, List.any_append]
      congr 1
      by_cases e : k' = xs.getD i Str.empty
      · rw [← e]; simp
      · have hb : (xs.getD i Str.empty == k') = false := by simpa [beq_iff_eq] using (fun h' : xs.getD i Str.empty = k' => e h'.symm)
        simp only [List.any_cons, List.any_nil, Bool.or_false, hb]
        exact decide_eq_false e
    refine wpAny_pure ⟨plainId_quiet PyProof.Rows.F.plain_set_update_loop _, ih (i + 1) _ (by omega) hlt (W.frame _ s' _ _ hst' (Nat.le_succ _) fun b hb o e => ?_) hSi fun s'' hm'' hS'' => ?_⟩
    · rw [hsb.2 b (fun h : b = S => hSf (by rw [← h]; exact hb))]; exact e
    · refine hR s'' (Moved.trans W.gtrans ((hm.mono hsub).then_heap (Nat.le_succ _) fun b o hb e => ?_) hm'') hS''
      rw [hsb.2 b (fun h : b = S => hb (by rw [h]; exact List.mem_cons_self))]; exact e
end
section
variable {prog : Program} {w : World} {A : Around} {E : Value → Shared → Prop} {s : Shared}
set_option maxHeartbeats 3200000 in
theorem call_set_listTxt {l : Addr} {items : Array Value} {xs : List Str} {Q : Value → Shared → Prop}
    (hh : A.handled = none) (hl : s.heap.IsList l items) (hi : PyProof.Rows.StrsAre items.toList xs) (hn1 : xs.length ≤ 3000)
    (h : ∀ (h' : Heap) (tk : Nat), h'.SetOf (PySem.strKind prog w) s.heap.objs.size (fun k' => (xs.take items.size).any (· == k')) (cntT xs items.size) →
      (∀ b o, b < s.heap.objs.size → s.heap.get? b = some o → h'.get? b = some o) → Q (.ref s.heap.objs.size) { s with heap := h', toks := tk }) :
    wpAny (model prog w) A (call (.type "set") [.ref l]) Q E s := by
  obtain ⟨c, tl, hmro⟩ := PySem.F.called_set.mro
  have hmade := PySem.F.called_set.made
  have hsub := PySem.F.called_set.sub
  refine wpAny_call (codeAny_of_tree ?_)
  show wpAny _ _ (callAny (.type "set") _) _ _ _
  refine wpAny_pure ⟨Code.quiet_builtin _ (by decide +kernel), codeAny_builtin PySem.F.entry_type_call ?_⟩
  rw [Around.under_plain (weight_type_call_type "set" [.ref l] []) rfl]
  have h1 := PySem.F.called_set.notType
  have h2 := PySem.F.called_set.canCreate
  have hct := PySem.F.typeCall_set_1 (.ref l)
  repeat (any_goals (first | assumption | wp_step))
  refine codeAny_mono (code_set_new_1 (.ref l) (E := E) (Q₁ := fun obj s₁ => ∃ led : Bool, obj = .ref s.heap.objs.size ∧ s₁ = { s with heap := s.heap.push { cls := .type "set", dict := none, data := .set #[] 0 (.fresh 0 0 led) } }) fun led => ⟨led, rfl, rfl⟩) fun r s₁ hr => ?_
  cases r with
  | error e => exact hr
  | ok fl =>
    cases fl with
    | ret obj =>
      obtain ⟨led, rfl, rfl⟩ := hr
      have hS : (s.heap.push { cls := .type "set", dict := none, data := .set #[] 0 (.fresh 0 0 led) }).get? s.heap.objs.size = some { cls := .type "set", dict := none, data := .set #[] 0 (.fresh 0 0 led) } := Heap.get?_push_size _ rfl
      have hT : Shared.TypeIs { s with heap := s.heap.push { cls := .type "set", dict := none, data := .set #[] 0 (.fresh 0 0 led) } } (.ref s.heap.objs.size) "set" := ⟨_, hS, rfl⟩
      have hli := PySem.F.called_set.init.lookup
      have hbi := PySem.F.called_set.init.bind (.ref s.heap.objs.size)
      repeat (any_goals (first | assumption | wp_step))
      refine codeAny_mono (codeAny_call_builtin (R := wants (fun r s₂ => r = .none ∧ ∃ h' tk, s₂ = { s with heap := h', toks := tk } ∧
          h'.SetOf (PySem.strKind prog w) s.heap.objs.size (fun k' => (xs.take items.size).any (· == k')) (cntT xs items.size) ∧
          (∀ b o, b < s.heap.objs.size → s.heap.get? b = some o → h'.get? b = some o)) E) PySem.F.called_set.init.plain PySem.F.entry_set_init (check_set_init_1 hT ?_)) fun r₂ s₂ hr₂ => ?_
      · obtain ⟨ol, hol, hcl, nl, hdl⟩ := hl
        obtain ⟨ocls, odict, odata, oslots⟩ := ol
        simp only at hcl hdl
        subst hcl; subst hdl
        have hol' : (s.heap.push { cls := .type "set", dict := none, data := .set #[] 0 (.fresh 0 0 led) }).get? l = some { cls := .type "list", dict := odict, data := .seq items nl, slots := oslots } := Heap.get?_push_of_some _ hol
        have hsls := PySem.F.sub_list_set
        have hslf := PySem.F.sub_list_frozenset
        have hne : (Value.type "list" == Value.type "dict") = false := by decide
        have hl1 : (s.heap.push { cls := .type "set", dict := none, data := .set #[] 0 (.fresh 0 0 led) }).IsList l items := ⟨_, hol', rfl, nl, rfl⟩
        unfold Builtin.«set.__init__» noKeywords Builtin.Frozenset.updateFrom
        generalize hPI : pyIter = PI
        wp_walk
        subst hPI
        refine wpAny_pyIter_list hl1 ?_
        refine wpAny_bind (wpAny_runValue ?_)
        have hlS : l < s.heap.objs.size := Heap.lt_size hol
        have hh3 : A.in1.in1.in1.handled = none := by simp [hh]
        have hneI : l ≠ (s.heap.push { cls := .type "set", dict := none, data := .set #[] 0 (.fresh 0 0 led) }).objs.size := by
          rw [Heap.size_push]; exact Nat.ne_of_lt (Nat.lt_succ_of_lt hlS)
        have hSf : s.heap.objs.size ∉ [(s.heap.push { cls := .type "set", dict := none, data := .set #[] 0 (.fresh 0 0 led) }).objs.size, l] := by
          rw [Heap.size_push]; simp only [List.mem_cons, List.mem_singleton, List.not_mem_nil, or_false, not_or]
          exact ⟨Nat.ne_of_lt (Nat.lt_succ_self _), Nat.ne_of_gt hlS⟩
        have hsz : xs.length = items.size := by rw [← StrsAre.len_eq hi, Array.length_toList]
        have hval : ∀ (i : Nat) (v : Value), items[i]? = some v → ∃ t, v = .str (xs.getD i Str.empty) t := fun i v hv => SS.strs_at hi i v (by rw [Array.getElem?_toList]; exact hv)
        refine loopTxt ((Walks.list hh3 _ l hneI items).toS) s.heap.objs.size
          hSf xs hsz (by rw [← hsz]; exact hn1) hval (items.size - 0) 0 _ (by omega) (Nat.zero_le _)
          ⟨⟨_, Heap.get?_push_size _ rfl, rfl, rfl⟩, (hl1.push _)⟩ ?hS0 ?hR
        case hS0 =>
          have hget : ((s.heap.push { cls := .type "set", dict := none, data := .set #[] 0 (.fresh 0 0 led) }).push { cls := .type "list_iterator", data := .fields #[.ref l, .int 0 0] }).get? s.heap.objs.size
              = some { cls := .type "set", dict := none, data := .set #[] 0 (.fresh 0 0 led) } := Heap.get?_push_of_some _ hS
          exact PyProof.Rows.SetOf_congr ((PyProof.Rows.setObjOf_fresh (knd := PySem.strKind prog w) led).setOf hget (by unfold scanBound; omega)) (fun _ => rfl) rfl
        case hR =>
          intro s' hm hS'
          obtain ⟨h', g', d', tk', os'⟩ := s'
          have eg : g' = s.gens := hm.gens
          have ed : d' = s.drawn := hm.drawn
          have eo : os' = s.os := hm.os
          subst eg; subst ed; subst eo
          show wpAny _ _ _ _ _ _
          refine wpAny_pure ?_
          show wpAny _ _ (ret Value.none) _ _ _
          refine wpAny_pure ⟨rfl, h', tk', rfl, hS', fun b o hb e => ?_⟩
          have hb1 : b ≠ s.heap.objs.size := Nat.ne_of_lt hb
          have hb2 : b ≠ (s.heap.push { cls := .type "set", dict := none, data := .set #[] 0 (.fresh 0 0 led) }).objs.size := by
            rw [Heap.size_push]; exact Nat.ne_of_lt (Nat.lt_succ_of_lt hb)
          exact hm.heap b o (by simp only [List.mem_cons, List.mem_singleton, List.not_mem_nil, or_false, not_or]; exact ⟨hb1, hb2⟩) (Heap.get?_push_of_some _ (Heap.get?_push_of_some _ e))
      · cases r₂ with
        | error e => exact hr₂
        | ok fl₂ =>
          cases fl₂ with
          | ret r =>
            obtain ⟨rfl, h', tk, rfl, hS', hk'⟩ := hr₂
            repeat (any_goals (first | assumption | wp_step))
            exact h _ _ hS' hk'
          | _ => exact hr₂.elim
    | _ => exact hr.elim
end
end SetTxt
namespace PL
open PySem PySem.Spec PyProof.Rows L2
section
variable {X : Cx}
def tLenSetT (K : PySem.W.Frag) (ta : TE) : TE := fun σ H Q => ta σ H fun x H1 => ∃ l, ∃ xs : List Str, x = .ref l ∧ SqL K H1 l (xs.map V.str) ∧ xs.length ≤ 3000 ∧ Q (.int (SetTxt.cntT xs xs.length : Nat)) H1
theorem pe_lenSetT {a : Expr} {ta : TE} {p p2 q pos : Pos} (hc : X.calm = true) (hg : Gl X "len") (hm : X.mg "len" = none) (hg2 : Gl X "set") (hm2 : X.mg "set" = none) (ha : PE X a ta)
    (na : starEach [a] X.env = (false, eval a X.env) :: starEach [] X.env := by rfl) : PE X (.Call (.Name "len" p) [.Call (.Name "set" p2) [a] [] q] [] pos) (tLenSetT X.K ta) := by
  refine ⟨fun pins s σ H Q I h => ?_⟩
  refine Call_ (ld_blt I hg hm PySem.boot_len ?_)
  refine PyProof.Rows.callWith_builtin1 (PyProof.Rows.args_cons ?_ rfl) rfl rfl
  refine Call_ (ld_blt I hg2 hm2 PyProof.Rows.boot_set ?_)
  refine PyProof.Rows.callWith_type1 (PyProof.Rows.args_cons (thn (ha.run pins s σ H _ I h) fun v s1 ⟨x, H1, I1, r1, q1⟩ => PyProof.Rows.args_nil ?_) na) na rfl
  obtain ⟨l, xs, rfl, hq, h1, q1⟩ := q1
  cases r1
  obtain ⟨its, r, pl, hz⟩ := I1.list hq
  have hl : its.toArray.size = xs.length := by rw [List.size_toArray, ← r.length, List.length_map]
  have hcn := SetTxt.cntT_le xs xs.length
  refine SetTxt.call_set_listTxt (I1.ok.hd hc) pl.isList (by simpa using strsAre_of r) h1 fun h' tk hS hk => ?_
  rw [hl] at hS
  refine PyProof.Rows.args_nil ?_
  obtain ⟨o, es, ep, t, ho, hex, hd, _, _, _, hf, hn⟩ := hS
  have I2 : Inv X pins σ H1 { s1 with heap := h', toks := tk } := I1.kept fun b o e => hk b o (Heap.lt_size e) e
  refine call_len_set ho hex hd hf (by rw [hn] <;> omega) ⟨.int (SetTxt.cntT xs xs.length : Nat), H1, I2.tok _, ⟨_, by rw [hn]⟩, q1⟩
def gLenSet : D → Option D
  | .lst xs => (strsOf xs).bind fun ss => if ss.length ≤ 3000 then some (.int (SetTxt.cntT ss ss.length : Nat)) else none
  | _ => none
theorem fe_lenSet {a : Expr} {fa : Rho → Option D} {p p2 q pos : Pos} (hc : X.calm = true) (hg : Gl X "len") (hm : X.mg "len" = none) (hg2 : Gl X "set") (hm2 : X.mg "set" = none) (ha : WE X a fa)
    (na : starEach [a] X.env = (false, eval a X.env) :: starEach [] X.env := by rfl) : FE X (.Call (.Name "len" p) [.Call (.Name "set" p2) [a] [] q] [] pos) (u1 gLenSet fa) :=
  PE.weak (pe_lenSetT hc hg hm hg2 hm2 ha na) fun σ H Q ⟨ρ, d, er, hf, k⟩ => by
    obtain ⟨x, h1, h2⟩ := Option.bind_eq_some_iff.mp hf
    refine ⟨ρ, x, er, h1, fun v H1 s1 r1 => ?_⟩
    cases x <;> simp only [gLenSet, reduceCtorEq] at h2
    obtain ⟨ss, h3, h4⟩ := Option.bind_eq_some_iff.mp h2
    split at h4
    · rename_i hl
      cases h4
      obtain ⟨l, vs, rfl, ha, ra⟩ := repW_lst r1
      rw [strsOf_eq h3] at ra
      rw [repL_strs ra] at ha
      exact ⟨l, ss, rfl, .inl ha, hl, k _ H1 s1 repF_int⟩
    · cases h4
end
end PL
/-! ### part MiC -/
namespace PLaw
open PySem L2 PL
noncomputable section
/-- mark_names: 0 items, 1 item -/
def B_mark_names : Rho → Option Fl :=
  (gSeq (gRet (fComp (fSeq (fVar 0)) [1] (tName 1) (tb (b2 gEq (b2 gIdx (fVarW 1) (fC (.int 0))) (fC (.str "mark")))) (b2 gIdx (fVarW 1) (fC (.int 1)))))
  gNil)
def M_mark_names : List D → Option D := runF 2 B_mark_names
/-- _law_cell: 0 script, 1 index -/
def B__law_cell : Rho → Option Fl :=
  (gSeq (gIf (tb (b2 gLt (fVarW 1) (u1 gLen (fVarW 0)))) (gSeq (gRet (b2 gIdx (fVarW 0) (fVarW 1)))
  gNil) gNil)
  (gSeq (gIf (tb (b2 gEq (u1 gLen (fVarW 0)) (fC (.int 0)))) (gSeq (gRet (b2 gAdd (fz (b2 gMul (fC (.int 7919)) (fVarW 1))) (fC (.int 101))))
  gNil) gNil)
  (gSeq (gRet (b2 gAdd (b2 gMod (b2 gIdx (fVarW 0) (b2 gMod (fVarW 1) (u1 gLen (fVarW 0)))) (fC (.int 1000003))) (fz (b2 gMul (fC (.int 7919)) (fVarW 1)))))
  gNil)))
def M__law_cell : List D → Option D := runF 2 B__law_cell
/-- _law_same_bool: 0 result, 1 expected -/
def B__law_same_bool : Rho → Option Fl :=
  (gSeq (gRet (vAnd (u1 (isT "bool") (fVarW 0)) (b2 gEq (fVarW 0) (fVarW 1))))
  gNil)
def M__law_same_bool : List D → Option D := runF 2 B__law_same_bool
/-- _law_document: 0 digits, 1 most, 2 size, 3 names, 4 some, 5 name, 6 k, 7 digit, 8 many, 9 document, 10 at -/
def L__law_document_0 : Rho → Option Fl :=
  (gSeq (gSet 10 (b2 gMod (b2 gIdx (fVarW 0) (fz (b2 gAdd (fC (.int 30)) (u1 gLen (fVarW 9))))) (u1 gLen (fVarW 4))))
  (gSeq (gSet 9 (fz (b2 gAdd (fVarW 9) (fTup (fsCons (b2 gIdx (fVarW 4) (fVarW 10)) fsNil)))))
  (gSeq (gSet 4 (b2 gAdd (fz (fSl (fVarW 4) oNone (oSome (fVarW 10)))) (fz (fSl (fVarW 4) (oSome (fz (b2 gAdd (fVarW 10) (fC (.int 1))))) oNone))))
  gNil)))
def L__law_document_1 : Rho → Option Fl :=
  (gSeq (gSet 7 (b2 gIdx (fVarW 0) (fz (b2 gAdd (fC (.int 20)) (fVarW 6)))))
  (gSeq (gSet 8 (fz (fLst (fsCons (b2 gMod (fVarW 7) (fC (.int 7))) (fsCons (fVar 2) (fsCons (fz (b2 gAdd (fz (b2 gMul (fVarW 2) (fC (.int 8)))) (b2 gMod (fVarW 7) (fz (b2 gAdd (fVarW 2) (fC (.int 3))))))) (fsCons (fz (b2 gAdd (fz (b2 gMul (fVarW 2) (fC (.int 89)))) (b2 gMod (fVarW 7) (fz (b2 gAdd (fVarW 2) (fC (.int 3))))))) (fsCons (b2 gMod (fVarW 7) (fz (b2 gMul (fC (.int 3)) (fVarW 2)))) fsNil))))))))
  (gSeq (gApp 4 (fTup (fsCons (fC (.str "text")) (fsCons (b2 gIdx (fVarW 8) (b2 gMod (b2 gFdiv (fVarW 7) (fC (.int 7))) (fC (.int 5)))) fsNil))))
  gNil)))
def L__law_document_2 : Rho → Option Fl :=
  (gSeq (gApp 4 (fTup (fsCons (fC (.str "ref")) (fsCons (b2 gIdx (fVarW 3) (b2 gMod (b2 gIdx (fVarW 0) (fz (b2 gAdd (fC (.int 10)) (fVarW 6)))) (u1 gLen (fVarW 3)))) fsNil))))
  gNil)
def B__law_document : Rho → Option Fl :=
  (gSeq (gSet 2 (b2 gIdx (fz (fLst (fsCons (fC (.int 1)) (fsCons (fC (.int 3)) (fsCons (fC (.int 10)) (fsCons (fC (.int 97)) fsNil)))))) (b2 gMod (b2 gIdx (fVarW 0) (fC (.int 0))) (fC (.int 4)))))
  (gSeq (gSet 3 (fz (fSl (fz (fLst (fsCons (fC (.str "a")) (fsCons (fC (.str "b")) (fsCons (fC (.str "cc")) (fsCons (fC (.str "dog")) (fsCons (fC (.str "e")) (fsCons (fC (.str "f")) (fsCons (fC (.str "g")) (fsCons (fC (.str "h")) fsNil)))))))))) oNone (oSome (fz (b2 gAdd (fC (.int 1)) (b2 gMod (b2 gIdx (fVarW 0) (fC (.int 1))) (fVarW 1))))))))
  (gSeq (gSet 4 (fComp (fSeq (fVar 3)) [5] (tName 5) cYes (fTup (fsCons (fC (.str "mark")) (fsCons (fVar 5) fsNil)))))
  (gSeq (gFor (fRng rng1 (fsCons (b2 gMod (b2 gIdx (fVarW 0) (fC (.int 2))) (fC (.int 7))) fsNil)) (tName 6) L__law_document_2)
  (gSeq (gFor (fRng rng1 (fsCons (b2 gMod (b2 gIdx (fVarW 0) (fC (.int 3))) (fC (.int 6))) fsNil)) (tName 6) L__law_document_1)
  (gSeq (gSet 4 (b2 gAdd (fVarW 4) (fz (b2 gMul (fz (fLst (fsCons (fTup (fsCons (fC (.str "break")) fsNil)) fsNil))) (b2 gMod (b2 gFdiv (b2 gIdx (fVarW 0) (fC (.int 4))) (fC (.int 3))) (fC (.int 3)))))))
  (gSeq (gSet 9 (fTup fsNil))
  (gSeq (gWhile (tb (b2 gNe (fVarW 4) (fz (fLst fsNil)))) L__law_document_0)
  (gSeq (gRet (fTup (fsCons (fVar 9) (fsCons (fVar 2) fsNil))))
  gNil)))))))))
def M__law_document : List D → Option D := runF 11 B__law_document
/-- _law_start: 0 digits, 1 document, 2 found, 3 item, 4 digit -/
def L__law_start_0 : Rho → Option Fl :=
  (gSeq (gIf (tb (b2 gEq (b2 gIdx (fVarW 3) (fC (.int 0))) (fC (.str "mark")))) (gSeq (gSet 4 (b2 gIdx (fVarW 0) (u1 gLen (fVarW 2))))
  (gSeq (gSet 2 (fz (b2 gAdd (fVarW 2) (fTup (fsCons (b2 gIdx (fz (fLst (fsCons (fC (.int 1)) (fsCons (fC (.int 9)) (fsCons (fC (.int 10)) (fsCons (fC (.int 99)) (fsCons (fC (.int 100)) (fsCons (fz (b2 gAdd (fC (.int 1)) (fVarW 4))) (fsCons (b2 gPow (fC (.int 10)) (fC (.int 9))) fsNil))))))))) (b2 gMod (fVarW 4) (fC (.int 7)))) fsNil)))))
  gNil)) gNil)
  gNil)
def B__law_start : Rho → Option Fl :=
  (gSeq (gSet 2 (fTup fsNil))
  (gSeq (gFor (fSeq (fVar 1)) (tName 3) L__law_start_0)
  (gSeq (gRet (fVar 2))
  gNil)))
def M__law_start : List D → Option D := runF 5 B__law_start
/-- _law_names: 0 document, 1 item -/
def B__law_names : Rho → Option Fl :=
  (gSeq (gRet (fComp (fSeq (fVar 0)) [1] (tName 1) (tb (b2 gEq (b2 gIdx (fVarW 1) (fC (.int 0))) (fC (.str "mark")))) (b2 gIdx (fVarW 1) (fC (.int 1)))))
  gNil)
def M__law_names : List D → Option D := runF 2 B__law_names
/-- starts: 0 document, 1 size, 2 numbering, 3 printed, 4 name, 5 number, 6 result, 7 place, 8 item -/
def L_starts_0 : Rho → Option Fl :=
  (gSeq (gApp 6 (fVar 7))
  (gSeq (gIf (tb (b2 gEq (b2 gIdx (fVarW 8) (fC (.int 0))) (fC (.str "text")))) (gSeq (gAug 7 (b2 gIdx (fVarW 8) (fC (.int 1))))
  gNil) (gSeq (gIf (tb (b2 gEq (b2 gIdx (fVarW 8) (fC (.int 0))) (fC (.str "ref")))) (gSeq (gAug 7 (u1 gLen (u1 gStr (b2 gDix (fVarW 3) (b2 gIdx (fVarW 8) (fC (.int 1)))))))
  gNil) (gSeq (gIf (tb (b2 gEq (b2 gIdx (fVarW 8) (fC (.int 0))) (fC (.str "break")))) (gSeq (gSet 7 (fz (b2 gMul (b2 gFdiv (b2 gSub (fz (b2 gAdd (fVarW 7) (fVarW 1))) (fC (.int 1))) (fVarW 1)) (fVarW 1))))
  gNil) gNil)
  gNil))
  gNil))
  gNil))
def B_starts : Rho → Option Fl :=
  (gSeq (gSet 3 (fDcomp (fZip (fz (fCall 1 M_mark_names (fsCons (fVar 0) fsNil))) (fVar 2)) [4, 5] (tTup 2 (tCons (tName 4) (tCons (tName 5) tNil))) cYes (fVar 4) (fVar 5)))
  (gSeq (gPar2 6 7 (fLst fsNil) (fC (.int 0)))
  (gSeq (gFor (fSeq (fVar 0)) (tName 8) L_starts_0)
  (gSeq (gRetV 6)
  gNil))))
def M_starts : List D → Option D := runF 9 B_starts
/-- _law_digits: 0 script, 1 index, 2 count, 3 base, 4 primes, 5 cell, 6 rest, 7 digits, 8 k, 9 mixed -/
def L__law_digits_0 : Rho → Option Fl :=
  (gSeq (gSet 9 (fz (b2 gMul (b2 gMod (fVarW 5) (b2 gIdx (fVarW 4) (b2 gMod (fVarW 8) (fC (.int 8))))) (fz (b2 gAdd (fC (.int 48271)) (fz (b2 gMul (fz (b2 gMul (fC (.int 2)) (fVarW 8))) (fVarW 8))))))))
  (gSeq (gSet 9 (fz (b2 gAdd (fz (b2 gAdd (fVarW 9) (fz (b2 gMul (fz (b2 gMul (fC (.int 7919)) (fz (b2 gAdd (fVarW 8) (fC (.int 1)))))) (fz (b2 gAdd (fVarW 8) (fC (.int 1)))))))) (fz (b2 gMul (fC (.int 104729)) (fVarW 1))))))
  (gSeq (gSet 9 (b2 gMod (fVarW 9) (b2 gIdx (fVarW 4) (b2 gMod (fz (b2 gAdd (fz (b2 gMul (fC (.int 3)) (fVarW 8))) (fVarW 1))) (fC (.int 8))))))
  (gSeq (gSet 9 (b2 gMod (fz (b2 gMul (fz (b2 gMul (fVarW 9) (fVarW 9))) (fVarW 9))) (b2 gIdx (fVarW 4) (b2 gMod (fz (b2 gAdd (fVarW 8) (fC (.int 5)))) (fC (.int 8))))))
  (gSeq (gIf (tb (b2 gGt (fVarW 6) (fC (.int 0)))) (gSeq (gSet 9 (fVar 6))
  gNil) gNil)
  (gSeq (gApp 7 (b2 gMod (fVarW 9) (fVarW 3)))
  (gSeq (gSet 6 (b2 gFdiv (fVarW 6) (fVarW 3)))
  gNil)))))))
def B__law_digits : Rho → Option Fl :=
  (gSeq (gSet 4 (fTup (fsCons (fC (.int 2147483647)) (fsCons (fC (.int 2147483629)) (fsCons (fC (.int 2147483587)) (fsCons (fC (.int 2147483579)) (fsCons (fC (.int 2147483563)) (fsCons (fC (.int 2147483549)) (fsCons (fC (.int 2147483543)) (fsCons (fC (.int 2147483497)) fsNil))))))))))
  (gSeq (gSet 5 (fz (fCall 2 M__law_cell (fsCons (fVar 0) (fsCons (fVar 1) fsNil)))))
  (gSeq (gSet 6 (fIf (tb (b2 gGe (fVarW 5) (b2 gPow (fC (.int 10)) (fC (.int 18))))) (fVar 5) (fC (.int 0))))
  (gSeq (gSet 7 (fLst fsNil))
  (gSeq (gFor (fRng rng1 (fsCons (fVar 2) fsNil)) (tName 8) L__law_digits_0)
  (gSeq (gRetV 7)
  gNil))))))
def M__law_digits : List D → Option D := runF 10 B__law_digits
/-- _law_places: 0 document, 1 size, 2 numbering, 3 places, 4 place, 5 item -/
def L__law_places_0 : Rho → Option Fl :=
  (gSeq (gSet 4 (fz (b2 gAdd (fVarW 4) (fC (.int 1)))))
  gNil)
def L__law_places_1 : Rho → Option Fl :=
  (gSeq (gApp 3 (fVar 4))
  (gSeq (gIf (tb (b2 gEq (b2 gIdx (fVarW 5) (fC (.int 0))) (fC (.str "text")))) (gSeq (gSet 4 (fz (b2 gAdd (fVarW 4) (b2 gIdx (fVarW 5) (fC (.int 1))))))
  gNil) gNil)
  (gSeq (gIf (tb (b2 gEq (b2 gIdx (fVarW 5) (fC (.int 0))) (fC (.str "ref")))) (gSeq (gSet 4 (fz (b2 gAdd (fVarW 4) (u1 gLen (u1 gStr (b2 gIdx (fVarW 2) (b2 gIndex (fz (fCall 1 M__law_names (fsCons (fVar 0) fsNil))) (b2 gIdx (fVarW 5) (fC (.int 1))))))))))
  gNil) gNil)
  (gSeq (gWhile (fAnd (tb (b2 gEq (b2 gIdx (fVarW 5) (fC (.int 0))) (fC (.str "break")))) (tb (b2 gGt (b2 gMod (fVarW 4) (fVarW 1)) (fC (.int 0))))) L__law_places_0)
  gNil))))
def B__law_places : Rho → Option Fl :=
  (gSeq (gPar2 3 4 (fLst fsNil) (fC (.int 0)))
  (gSeq (gFor (fSeq (fVar 0)) (tName 5) L__law_places_1)
  (gSeq (gRetV 3)
  gNil)))
def M__law_places : List D → Option D := runF 6 B__law_places
/-- pages: 0 document, 1 size, 2 numbering, 3 places, 4 item, 5 place -/
def B_pages : Rho → Option Fl :=
  (gSeq (gSet 3 (fz (fCall 3 M_starts (fsCons (fVar 0) (fsCons (fVar 1) (fsCons (fVar 2) fsNil))))))
  (gSeq (gRet (u1 gTuple (fz (fComp (fZip (fVar 0) (fVar 3)) [4, 5] (tTup 2 (tCons (tName 4) (tCons (tName 5) tNil))) (tb (b2 gEq (b2 gIdx (fVarW 4) (fC (.int 0))) (fC (.str "mark")))) (fz (b2 gAdd (b2 gFdiv (fVarW 5) (fVarW 1)) (fC (.int 1))))))))
  gNil))
def M_pages : List D → Option D := runF 6 B_pages
/-- _law_pages: 0 document, 1 size, 2 numbering, 3 places, 4 found, 5 item, 6 place -/
def L__law_pages_0 : Rho → Option Fl :=
  (gSeq (gIf (tb (b2 gEq (b2 gIdx (fVarW 5) (fC (.int 0))) (fC (.str "mark")))) (gSeq (gSet 4 (fz (b2 gAdd (fVarW 4) (fTup (fsCons (fz (b2 gAdd (b2 gFdiv (fVarW 6) (fVarW 1)) (fC (.int 1)))) fsNil)))))
  gNil) gNil)
  gNil)
def B__law_pages : Rho → Option Fl :=
  (gSeq (gPar2 3 4 (fz (fCall 3 M__law_places (fsCons (fVar 0) (fsCons (fVar 1) (fsCons (fVar 2) fsNil))))) (fTup fsNil))
  (gSeq (gFor (fZip (fVar 0) (fVar 3)) (tTup 2 (tCons (tName 5) (tCons (tName 6) tNil))) L__law_pages_0)
  (gSeq (gRet (fVar 4))
  gNil)))
def M__law_pages : List D → Option D := runF 7 B__law_pages
/-- is_consistent: 0 document, 1 size, 2 numbering -/
def B_is_consistent : Rho → Option Fl :=
  (gSeq (gRet (b2 gEq (fz (fCall 3 M_pages (fsCons (fVar 0) (fsCons (fVar 1) (fsCons (fVar 2) fsNil))))) (fVarW 2)))
  gNil)
def M_is_consistent : List D → Option D := runF 3 B_is_consistent
/-- _law_below: 0 one, 1 other, 2 first, 3 second -/
def B__law_below : Rho → Option Fl :=
  (gSeq (gRet (b2 gEq (fz (fComp (fZip (fVar 0) (fVar 1)) [2, 3] (tTup 2 (tCons (tName 2) (tCons (tName 3) tNil))) (tb (b2 gGt (fVarW 2) (fVarW 3))) (fC (.int 1)))) (fz (fLst fsNil))))
  gNil)
def M__law_below : List D → Option D := runF 4 B__law_below
/-- runs: 0 document, 1 size, 2 start, 3 seen, 4 numbering -/
def L_runs_0 : GFl :=
  (hSeq (hPl (gApp 3 (fVar 4)))
  (hSeq (hYield (fVar 4))
  (hSeq (hPl (gSet 4 (fz (fCall 3 M_pages (fsCons (fVar 0) (fsCons (fVar 1) (fsCons (fVar 4) fsNil)))))))
  hNil)))
def B_runs : GFl :=
  (hSeq (hPl (gPar2 3 4 (fLst fsNil) (fVar 2)))
  (hSeq (hWhile (tb (b2 gNotIn (fVarW 4) (fVarW 3))) L_runs_0)
  hNil))
def G_runs : List D → Option (List D) := runG 5 B_runs
/-- _law_settled: 0 document, 1 wide, 2 numbering, 3 later -/
def L__law_settled_0 : Rho → Option Fl :=
  (gSeq (gSet 2 (fVar 3))
  (gSeq (gSet 3 (fz (fCall 3 M__law_pages (fsCons (fVar 0) (fsCons (fVar 1) (fsCons (fVar 2) fsNil))))))
  gNil))
def B__law_settled : Rho → Option Fl :=
  (gSeq (gSet 3 (fz (fCall 3 M__law_pages (fsCons (fVar 0) (fsCons (fVar 1) (fsCons (fVar 2) fsNil))))))
  (gSeq (gWhile (tb (b2 gNe (fVarW 3) (fVarW 2))) L__law_settled_0)
  (gSeq (gRet (fVar 2))
  gNil)))
def M__law_settled : List D → Option D := runF 4 B__law_settled
/-- _law_least: 0 document, 1 wide -/
def B__law_least : Rho → Option Fl :=
  (gSeq (gRet (fCall 3 M__law_settled (fsCons (fVar 0) (fsCons (fVar 1) (fsCons (fz (b2 gMul (fTup (fsCons (fC (.int 1)) fsNil)) (u1 gLen (fz (fCall 1 M__law_names (fsCons (fVar 0) fsNil)))))) fsNil)))))
  gNil)
def M__law_least : List D → Option D := runF 2 B__law_least
/-- _law_greatest: 0 document, 1 wide -/
def B__law_greatest : Rho → Option Fl :=
  (gSeq (gRet (fCall 3 M__law_settled (fsCons (fVar 0) (fsCons (fVar 1) (fsCons (fz (b2 gMul (fTup (fsCons (b2 gPow (fC (.int 10)) (fC (.int 9))) fsNil)) (u1 gLen (fz (fCall 1 M__law_names (fsCons (fVar 0) fsNil)))))) fsNil)))))
  gNil)
def M__law_greatest : List D → Option D := runF 2 B__law_greatest
/-- ending: 0 document, 1 size, 2 start, 3 found, 4 first -/
def B_ending : Rho → Option Fl :=
  (gSeq (gSet 3 (fz (fGen 3 G_runs (fsCons (fVar 0) (fsCons (fVar 1) (fsCons (fVar 2) fsNil))))))
  (gSeq (gSet 4 (b2 gIndex (fVarW 3) (fz (fCall 3 M_pages (fsCons (fVar 0) (fsCons (fVar 1) (fsCons (b2 gIdx (fVarW 3) (fNeg (fC (.int 1)))) fsNil)))))))
  (gSeq (gRet (fTup (fsCons (fVar 4) (fsCons (b2 gSub (u1 gLen (fVarW 3)) (fVarW 4)) fsNil))))
  gNil)))
def M_ending : List D → Option D := runF 5 B_ending
/-- settled: 0 document, 1 size, 2 start, 3 first, 4 period -/
def B_settled : Rho → Option Fl :=
  (gSeq (gAsg (tTup 2 (tCons (tName 3) (tCons (tName 4) tNil))) (fz (fCall 3 M_ending (fsCons (fVar 0) (fsCons (fVar 1) (fsCons (fVar 2) fsNil))))))
  (gSeq (gRet (fIf (tb (b2 gEq (fVarW 4) (fC (.int 1)))) (b2 gIdx (fz (fGen 3 G_runs (fsCons (fVar 0) (fsCons (fVar 1) (fsCons (fVar 2) fsNil))))) (fVarW 3)) (fC .non)))
  gNil))
def M_settled : List D → Option D := runF 5 B_settled
/-- least: 0 document, 1 size -/
def B_least : Rho → Option Fl :=
  (gSeq (gRet (fCall 3 M_settled (fsCons (fVar 0) (fsCons (fVar 1) (fsCons (fz (b2 gMul (fTup (fsCons (fC (.int 1)) fsNil)) (u1 gLen (fz (fCall 1 M_mark_names (fsCons (fVar 0) fsNil)))))) fsNil)))))
  gNil)
def M_least : List D → Option D := runF 2 B_least
/-- greatest: 0 document, 1 size -/
def B_greatest : Rho → Option Fl :=
  (gSeq (gRet (fCall 3 M_settled (fsCons (fVar 0) (fsCons (fVar 1) (fsCons (fz (b2 gMul (fTup (fsCons (fC (.int 1000000000)) fsNil)) (u1 gLen (fz (fCall 1 M_mark_names (fsCons (fVar 0) fsNil)))))) fsNil)))))
  gNil)
def M_greatest : List D → Option D := runF 2 B_greatest
/-- ten_to: 0 exponent, 1 result, 2 turn -/
def L_ten_to_0 : Rho → Option Fl :=
  (gSeq (gSet 1 (fz (b2 gMul (fC (.int 10)) (fVarW 1))))
  gNil)
def B_ten_to : Rho → Option Fl :=
  (gSeq (gSet 1 (fC (.int 1)))
  (gSeq (gFor (fRng rng1 (fsCons (fVar 0) fsNil)) (tName 2) L_ten_to_0)
  (gSeq (gRet (fVar 1))
  gNil)))
def M_ten_to : List D → Option D := runF 3 B_ten_to
/-- _law_all: 0 document, 1 wide, 2 rows, 3 turn, 4 longer, 5 row, 6 number, 7 found, 8 later -/
def L__law_all_0 : Rho → Option Fl :=
  (gSeq (gSet 8 (fz (fCall 3 M__law_pages (fsCons (fVar 0) (fsCons (fVar 1) (fsCons (fVar 5) fsNil))))))
  (gSeq (gIf (fAnd (tb (b2 gEq (fz (fCall 3 M__law_pages (fsCons (fVar 0) (fsCons (fVar 1) (fsCons (fVar 8) fsNil))))) (fVarW 8))) (tb (b2 gNotIn (fVarW 8) (fVarW 7)))) (gSeq (gApp 7 (fVar 8))
  gNil) gNil)
  gNil))
def L__law_all_1 : Rho → Option Fl :=
  (gSeq (gSet 4 (fz (b2 gAdd (fVarW 4) (fz (fComp (fSeq (fTup (fsCons (fC (.int 1)) (fsCons (fC (.int 10)) (fsCons (fC (.int 100)) (fsCons (fC (.int 1000)) fsNil)))))) [6] (tName 6) cYes (fz (b2 gAdd (fVarW 5) (fTup (fsCons (fVar 6) fsNil)))))))))
  gNil)
def L__law_all_2 : Rho → Option Fl :=
  (gSeq (gSet 4 (fz (fLst fsNil)))
  (gSeq (gFor (fSeq (fVar 2)) (tName 5) L__law_all_1)
  (gSeq (gSet 2 (fVar 4))
  gNil)))
def B__law_all : Rho → Option Fl :=
  (gSeq (gSet 2 (fz (fLst (fsCons (fTup fsNil) fsNil))))
  (gSeq (gFor (fRng rng1 (fsCons (u1 gLen (fz (fCall 1 M__law_names (fsCons (fVar 0) fsNil)))) fsNil)) (tName 3) L__law_all_2)
  (gSeq (gSet 7 (fLst fsNil))
  (gSeq (gFor (fSeq (fVar 2)) (tName 5) L__law_all_0)
  (gSeq (gRet (u1 gSorted (fVarW 7)))
  gNil)))))
def M__law_all : List D → Option D := runF 9 B__law_all
/-- all_consistent: 0 document, 1 size, 2 rows, 3 low, 4 high, 5 numbers, 6 k, 7 row, 8 number, 9 found, 10 numbering -/
def L_all_consistent_0 : Rho → Option Fl :=
  (gSeq (gSet 10 (fz (fCall 3 M_pages (fsCons (fVar 0) (fsCons (fVar 1) (fsCons (fVar 7) fsNil))))))
  (gSeq (gIf (fAnd (tb (fz (fCall 3 M_is_consistent (fsCons (fVar 0) (fsCons (fVar 1) (fsCons (fVar 10) fsNil)))))) (tb (b2 gNotIn (fVarW 10) (fVarW 9)))) (gSeq (gApp 9 (fVar 10))
  gNil) gNil)
  gNil))
def L_all_consistent_1 : Rho → Option Fl :=
  (gSeq (gSet 5 (fz (b2 gAdd (fz (fLst (fsCons (fVar 3) fsNil))) (fz (fComp (fRng rng2 (fsCons (u1 gLen (u1 gStr (fVarW 3))) (fsCons (u1 gLen (u1 gStr (fVarW 4))) fsNil))) [6] (tName 6) cYes (fz (fCall 1 M_ten_to (fsCons (fVar 6) fsNil))))))))
  (gSeq (gSet 2 (fz (fComp2 (fSeq (fVar 2)) [7, 8] (tName 7) (fSeq (fVar 5)) [8] (tName 8) (fz (b2 gAdd (fVarW 7) (fTup (fsCons (fVar 8) fsNil)))))))
  gNil))
def B_all_consistent : Rho → Option Fl :=
  (gSeq (gSet 2 (fz (fLst (fsCons (fTup fsNil) fsNil))))
  (gSeq (gFor (fZip (fz (fCall 2 M_least (fsCons (fVar 0) (fsCons (fVar 1) fsNil)))) (fz (fCall 2 M_greatest (fsCons (fVar 0) (fsCons (fVar 1) fsNil))))) (tTup 2 (tCons (tName 3) (tCons (tName 4) tNil))) L_all_consistent_1)
  (gSeq (gSet 9 (fLst fsNil))
  (gSeq (gFor (fSeq (fVar 2)) (tName 7) L_all_consistent_0)
  (gSeq (gRet (u1 gSorted (fVarW 9)))
  gNil)))))
def M_all_consistent : List D → Option D := runF 11 B_all_consistent
/-- _law_behind: 0 document, 1 early, 2 names, 3 item, 4 kept, 5 soon -/
def L__law_behind_0 : Rho → Option Fl :=
  (gSeq (gIf (tb (b2 gEq (b2 gIdx (fVarW 3) (fC (.int 0))) (fC (.str "mark")))) (gSeq (gApp 2 (b2 gIdx (fVarW 3) (fC (.int 1))))
  gNil) gNil)
  (gSeq (gApp 1 (vAnd (b2 gEq (b2 gIdx (fVarW 3) (fC (.int 0))) (fC (.str "ref"))) (b2 gNotIn (b2 gIdx (fVarW 3) (fC (.int 1))) (fVarW 2))))
  gNil))
def B__law_behind : Rho → Option Fl :=
  (gSeq (gPar2 1 2 (fLst fsNil) (fLst fsNil))
  (gSeq (gFor (fSeq (fVar 0)) (tName 3) L__law_behind_0)
  (gSeq (gIceT 1 (gSet 4 (fz (fComp (fZip (fVar 0) (fVar 1)) [3, 5] (tTup 2 (tCons (tName 3) (tCons (tName 5) tNil))) (nb (tb (fVar 5))) (fVar 3)))))
  (gSeq (gIceT 1 (gRet (u1 gTuple (fz (b2 gAdd (fVarW 4) (fz (fComp (fZip (fVar 0) (fVar 1)) [3, 5] (tTup 2 (tCons (tName 3) (tCons (tName 5) tNil))) (tb (fVar 5)) (fVar 3))))))))
  gNil))))
def M__law_behind : List D → Option D := runF 6 B__law_behind
/-- with_length: 0 document, 1 index, 2 length -/
def B_with_length : Rho → Option Fl :=
  (gSeq (gRet (b2 gAdd (fz (b2 gAdd (fz (fSl (fVarW 0) oNone (oSome (fVarW 1)))) (fTup (fsCons (fTup (fsCons (fC (.str "text")) (fsCons (fVar 2) fsNil))) fsNil)))) (fz (fSl (fVarW 0) (oSome (fz (b2 gAdd (fVarW 1) (fC (.int 1))))) oNone))))
  gNil)
def M_with_length : List D → Option D := runF 3 B_with_length
/-- _law_with: 0 document, 1 k, 2 long -/
def B__law_with : Rho → Option Fl :=
  (gSeq (gRet (b2 gAdd (fz (b2 gAdd (fz (fSl (fVarW 0) oNone (oSome (fVarW 1)))) (fTup (fsCons (fTup (fsCons (fC (.str "text")) (fsCons (fVar 2) fsNil))) fsNil)))) (fz (fSl (fVarW 0) (oSome (fz (b2 gAdd (fVarW 1) (fC (.int 1))))) oNone))))
  gNil)
def M__law_with : List D → Option D := runF 3 B__law_with
/-- _law_page: 0 document, 1 wide, 2 name -/
def B__law_page : Rho → Option Fl :=
  (gSeq (gRet (b2 gIdx (fz (fCall 2 M__law_least (fsCons (fVar 0) (fsCons (fVar 1) fsNil)))) (b2 gIndex (fz (fCall 1 M__law_names (fsCons (fVar 0) fsNil))) (fVar 2))))
  gNil)
def M__law_page : List D → Option D := runF 3 B__law_page
/-- page_with: 0 document, 1 size, 2 index, 3 name, 4 length, 5 changed -/
def B_page_with : Rho → Option Fl :=
  (gSeq (gSet 5 (fz (fCall 3 M_with_length (fsCons (fVar 0) (fsCons (fVar 2) (fsCons (fVar 4) fsNil))))))
  (gSeq (gRet (b2 gIdx (fz (fCall 2 M_least (fsCons (fVar 5) (fsCons (fVar 1) fsNil)))) (b2 gIndex (fz (fCall 1 M_mark_names (fsCons (fVar 0) fsNil))) (fVar 3))))
  gNil))
def M_page_with : List D → Option D := runF 6 B_page_with
/-- least_length: 0 document, 1 size, 2 index, 3 name, 4 page, 5 low, 6 high, 7 middle -/
def L_least_length_0 : Rho → Option Fl :=
  (gSeq (gSet 7 (b2 gFdiv (fz (b2 gAdd (fVarW 5) (fVarW 6))) (fC (.int 2))))
  (gSeq (gIf (fOr (tb (b2 gEq (fVarW 7) (fC (.int 1000001)))) (tb (b2 gGe (fz (fCall 5 M_page_with (fsCons (fVar 0) (fsCons (fVar 1) (fsCons (fVar 2) (fsCons (fVar 3) (fsCons (fVar 7) fsNil))))))) (fVarW 4)))) (gSeq (gSet 6 (fVar 7))
  gNil) (gSeq (gSet 5 (fz (b2 gAdd (fVarW 7) (fC (.int 1)))))
  gNil))
  gNil))
def B_least_length : Rho → Option Fl :=
  (gSeq (gAsg (tTup 2 (tCons (tName 5) (tCons (tName 6) tNil))) (fTup (fsCons (fC (.int 0)) (fsCons (fC (.int 1000001)) fsNil))))
  (gSeq (gWhile (tb (b2 gLt (fVarW 5) (fVarW 6))) L_least_length_0)
  (gSeq (gRet (fIf (tb (b2 gLe (fVarW 5) (fC (.int 1000000)))) (fVar 5) (fC .non)))
  gNil)))
def M_least_length : List D → Option D := runF 8 B_least_length
/-- fitting_lengths: 0 document, 1 size, 2 index, 3 name, 4 page, 5 low, 6 behind -/
def B_fitting_lengths : Rho → Option Fl :=
  (gSeq (gSet 5 (fz (fCall 5 M_least_length (fsCons (fVar 0) (fsCons (fVar 1) (fsCons (fVar 2) (fsCons (fVar 3) (fsCons (fVar 4) fsNil))))))))
  (gSeq (gIf (fOr (tb (b2 gIs (fVarW 5) (fC .non))) (tb (b2 gNe (fz (fCall 5 M_page_with (fsCons (fVar 0) (fsCons (fVar 1) (fsCons (fVar 2) (fsCons (fVar 3) (fsCons (fVar 5) fsNil))))))) (fVarW 4)))) (gSeq (gRet (fC .non))
  gNil) gNil)
  (gSeq (gSet 6 (fz (fCall 5 M_least_length (fsCons (fVar 0) (fsCons (fVar 1) (fsCons (fVar 2) (fsCons (fVar 3) (fsCons (fz (b2 gAdd (fVarW 4) (fC (.int 1)))) fsNil))))))))
  (gSeq (gRet (fTup (fsCons (fVar 5) (fsCons (fIf (tb (b2 gIs (fVarW 6) (fC .non))) (fC (.int 1000000)) (b2 gSub (fVarW 6) (fC (.int 1)))) fsNil))))
  gNil))))
def M_fitting_lengths : List D → Option D := runF 7 B_fitting_lengths
/-- _law_right: 0 document, 1 wide, 2 k, 3 name, 4 wanted, 5 low, 6 found, 7 top, 8 before, 9 long -/
def L__law_right_0 : Rho → Option Fl :=
  (gSeq (gIf (tb (b2 gNe (fz (fCall 3 M__law_page (fsCons (fz (fCall 3 M__law_with (fsCons (fVar 0) (fsCons (fVar 2) (fsCons (fVar 9) fsNil))))) (fsCons (fVar 1) (fsCons (fVar 3) fsNil))))) (fVarW 4))) (gSeq (gRet (fC (.bl false)))
  gNil) gNil)
  gNil)
def B__law_right : Rho → Option Fl :=
  (gSeq (gSet 5 (fz (fCall 5 M_least_length (fsCons (fVar 0) (fsCons (fVar 1) (fsCons (fVar 2) (fsCons (fVar 3) (fsCons (fVar 4) fsNil))))))))
  (gSeq (gSet 6 (fz (fCall 5 M_fitting_lengths (fsCons (fVar 0) (fsCons (fVar 1) (fsCons (fVar 2) (fsCons (fVar 3) (fsCons (fVar 4) fsNil))))))))
  (gSeq (gSet 7 (fz (fCall 3 M__law_page (fsCons (fz (fCall 3 M__law_with (fsCons (fVar 0) (fsCons (fVar 2) (fsCons (b2 gPow (fC (.int 10)) (fC (.int 6))) fsNil))))) (fsCons (fVar 1) (fsCons (fVar 3) fsNil))))))
  (gSeq (gIf (tb (b2 gNe (b2 gIs (fVarW 5) (fC .non)) (b2 gLt (fVarW 7) (fVarW 4)))) (gSeq (gRet (fC (.bl false)))
  gNil) gNil)
  (gSeq (gIf (tb (b2 gIsNot (fVarW 5) (fC .non))) (gSeq (gIf (fOr (nb (tb (b3 gLe gLe (fC (.int 0)) (fVarW 5) (b2 gPow (fC (.int 10)) (fC (.int 6)))))) (tb (b2 gLt (fz (fCall 3 M__law_page (fsCons (fz (fCall 3 M__law_with (fsCons (fVar 0) (fsCons (fVar 2) (fsCons (fVar 5) fsNil))))) (fsCons (fVar 1) (fsCons (fVar 3) fsNil))))) (fVarW 4)))) (gSeq (gRet (fC (.bl false)))
  gNil) gNil)
  (gSeq (gSet 8 (fz (fCall 3 M__law_with (fsCons (fVar 0) (fsCons (fVar 2) (fsCons (fArgs gMax (fsCons (fC (.int 0)) (fsCons (b2 gSub (fVarW 5) (fC (.int 1))) fsNil))) fsNil))))))
  (gSeq (gIf (fAnd (tb (b2 gGt (fVarW 5) (fC (.int 0)))) (tb (b2 gGe (fz (fCall 3 M__law_page (fsCons (fVar 8) (fsCons (fVar 1) (fsCons (fVar 3) fsNil))))) (fVarW 4)))) (gSeq (gRet (fC (.bl false)))
  gNil) gNil)
  gNil))) gNil)
  (gSeq (gIf (tb (b2 gIs (fVarW 6) (fC .non))) (gSeq (gRet (vOr (b2 gIs (fVarW 5) (fC .non)) (b2 gGt (fz (fCall 3 M__law_page (fsCons (fz (fCall 3 M__law_with (fsCons (fVar 0) (fsCons (fVar 2) (fsCons (fVar 5) fsNil))))) (fsCons (fVar 1) (fsCons (fVar 3) fsNil))))) (fVarW 4))))
  gNil) gNil)
  (gSeq (gIf (fOr (tb (b2 gNe (b2 gIdx (fVarW 6) (fC (.int 0))) (fVarW 5))) (nb (tb (b3 gLe gLe (fVarW 5) (b2 gIdx (fVarW 6) (fC (.int 1))) (b2 gPow (fC (.int 10)) (fC (.int 6))))))) (gSeq (gRet (fC (.bl false)))
  gNil) gNil)
  (gSeq (gFor (fSeq (fTup (fsCons (fVar 5) (fsCons (b2 gIdx (fVarW 6) (fC (.int 1))) (fsCons (b2 gFdiv (fz (b2 gAdd (fVarW 5) (b2 gIdx (fVarW 6) (fC (.int 1))))) (fC (.int 2))) fsNil))))) (tName 9) L__law_right_0)
  (gSeq (gRet (vOr (b2 gEq (b2 gIdx (fVarW 6) (fC (.int 1))) (b2 gPow (fC (.int 10)) (fC (.int 6)))) (b2 gGt (fz (fCall 3 M__law_page (fsCons (fz (fCall 3 M__law_with (fsCons (fVar 0) (fsCons (fVar 2) (fsCons (fz (b2 gAdd (b2 gIdx (fVarW 6) (fC (.int 1))) (fC (.int 1)))) fsNil))))) (fsCons (fVar 1) (fsCons (fVar 3) fsNil))))) (fVarW 4))))
  gNil)))))))))
def M__law_right : List D → Option D := runF 10 B__law_right
/-- common_lengths: 0 document, 1 size, 2 index, 3 numbering, 4 low, 5 high, 6 name, 7 page, 8 found -/
def L_common_lengths_0 : Rho → Option Fl :=
  (gSeq (gSet 8 (fz (fCall 5 M_fitting_lengths (fsCons (fVar 0) (fsCons (fVar 1) (fsCons (fVar 2) (fsCons (fVar 6) (fsCons (fVar 7) fsNil))))))))
  (gSeq (gIf (tb (b2 gIs (fVarW 8) (fC .non))) (gSeq (gRet (fC .non))
  gNil) gNil)
  (gSeq (gPar2 4 5 (fArgs gMax (fsCons (fVar 4) (fsCons (b2 gIdx (fVarW 8) (fC (.int 0))) fsNil))) (fArgs gMin (fsCons (fVar 5) (fsCons (b2 gIdx (fVarW 8) (fC (.int 1))) fsNil))))
  gNil)))
def B_common_lengths : Rho → Option Fl :=
  (gSeq (gAsg (tTup 2 (tCons (tName 4) (tCons (tName 5) tNil))) (fTup (fsCons (fC (.int 0)) (fsCons (fC (.int 1000000)) fsNil))))
  (gSeq (gFor (fZip (fz (fCall 1 M_mark_names (fsCons (fVar 0) fsNil))) (fVar 3)) (tTup 2 (tCons (tName 6) (tCons (tName 7) tNil))) L_common_lengths_0)
  (gSeq (gRet (fIf (tb (b2 gLe (fVarW 4) (fVarW 5))) (fTup (fsCons (fVar 4) (fsCons (fVar 5) fsNil))) (fC .non)))
  gNil)))
def M_common_lengths : List D → Option D := runF 9 B_common_lengths
/-- _law_digits_of: 0 numbering, 1 number -/
def B__law_digits_of : Rho → Option Fl :=
  (gSeq (gRet (fComp (fSeq (fVar 0)) [1] (tName 1) cYes (u1 gLen (u1 gStr (fVarW 1)))))
  gNil)
def M__law_digits_of : List D → Option D := runF 2 B__law_digits_of
end
end PLaw
/-! ### part Mi_k01 -/
namespace PLaw
open PySem L2 PL
noncomputable section
/-- is_integer: 0 value, 1 low, 2 high -/
def B_is_integer : Rho → Option Fl :=
  (gSeq (gRet (vAnd (u1 (isT "int") (fVarW 0)) (vAnd (vb (nb (tb (u1 (isT "bool") (fVarW 0))))) (b3 gLe gLe (fVarW 1) (fVarW 0) (fVarW 2)))))
  gNil)
def M_is_integer : List D → Option D := runF 3 B_is_integer
/-- is_name: 0 value, 1 sign -/
def B_is_name : Rho → Option Fl :=
  (gSeq (gRet (vAnd (u1 (isT "str") (fVarW 0)) (vAnd (b3 gLe gLe (fC (.int 1)) (u1 gLen (fVarW 0)) (fC (.int 8))) (u1 gAll (fz (fComp (fSeq (fVar 0)) [1] (tName 1) cYes (b2 gIn (fVarW 1) (fC (.str "abcdefghijklmnopqrstuvwxyz")))))))))
  gNil)
def M_is_name : List D → Option D := runF 2 B_is_name
/-- _law_is_integer: 0 value, 1 low, 2 high -/
def B__law_is_integer : Rho → Option Fl :=
  (gSeq (gRet (vAnd (u1 (isT "int") (fVarW 0)) (vAnd (vb (nb (tb (u1 (isT "bool") (fVarW 0))))) (b3 gLe gLe (fVarW 1) (fVarW 0) (fVarW 2)))))
  gNil)
def M__law_is_integer : List D → Option D := runF 3 B__law_is_integer
/-- _law_other_value: 0 value, 1 digits, 2 options -/
def B__law_other_value : Rho → Option Fl :=
  (gSeq (gSet 2 (fz (fLst (fsCons (fC .non) (fsCons (fC (.bl true)) (fsCons (fC (.bl false)) (fsCons (fC (.int 7)) (fsCons (b2 gSub (fC (.int 0)) (fC (.int 1))) (fsCons (b2 gPow (fC (.int 10)) (fC (.int 39))) (fsCons (fC (.str "0")) (fsCons (fC (.str "")) (fsCons (fTup fsNil) (fsCons (fz (fLst fsNil)) (fsCons (fTup (fsCons (fVar 0) fsNil)) (fsCons (fz (fLst (fsCons (fVar 0) fsNil))) (fsCons (fTup (fsCons (fC (.int 0)) fsNil)) (fsCons (fTup (fsCons (fC (.int 1)) (fsCons (fC (.int 0)) fsNil))) (fsCons (fC (.int 1)) (fsCons (fC (.int 0)) fsNil)))))))))))))))))))
  (gSeq (gIf (fAnd (tb (u1 (isT "int") (fVarW 0))) (nb (tb (u1 (isT "bool") (fVarW 0))))) (gSeq (gSet 2 (fz (b2 gAdd (fz (fLst (fsCons (fz (b2 gAdd (fVarW 0) (fC (.int 1)))) (fsCons (b2 gSub (fVarW 0) (fC (.int 1))) (fsCons (u1 gBool (fVarW 0)) (fsCons (fz (b2 gAdd (fVarW 0) (fC (.int 1)))) (fsCons (b2 gSub (fVarW 0) (fC (.int 1))) (fsCons (u1 gBool (fVarW 0)) fsNil)))))))) (fVarW 2))))
  gNil) gNil)
  (gSeq (gIf (tb (u1 (isT2 "list" "tuple") (fVarW 0))) (gSeq (gSet 2 (fz (b2 gAdd (fz (fLst (fsCons (fz (u1 gList (fVarW 0))) (fsCons (u1 gTuple (fVarW 0)) (fsCons (u1 gTuple (fz (u1 gRev (fVarW 0)))) (fsCons (fz (u1 gList (fVarW 0))) fsNil)))))) (fVarW 2))))
  gNil) gNil)
  (gSeq (gRet (b2 gIdx (fVarW 2) (b2 gMod (b2 gIdx (fVarW 1) (fC (.int 1))) (u1 gLen (fVarW 2)))))
  gNil))))
def M__law_other_value : List D → Option D := runF 3 B__law_other_value
/-- _law_moved_item: 0 items, 1 index, 2 digits, 3 target, 4 rest -/
def B__law_moved_item : Rho → Option Fl :=
  (gSeq (gSet 3 (b2 gMod (b2 gIdx (fVarW 2) (fC (.int 2))) (u1 gLen (fVarW 0))))
  (gSeq (gIf (tb (b2 gEq (b2 gMod (b2 gIdx (fVarW 2) (fC (.int 0))) (fC (.int 3))) (fC (.int 0)))) (gSeq (gRet (b2 gAdd (fz (fSl (fVarW 0) oNone (oSome (fVarW 1)))) (fz (fSl (fVarW 0) (oSome (fz (b2 gAdd (fVarW 1) (fC (.int 1))))) oNone))))
  gNil) gNil)
  (gSeq (gIf (tb (b2 gEq (b2 gMod (b2 gIdx (fVarW 2) (fC (.int 0))) (fC (.int 3))) (fC (.int 1)))) (gSeq (gRet (b2 gAdd (fz (b2 gAdd (fz (fSl (fVarW 0) oNone (oSome (fVarW 3)))) (fz (fLst (fsCons (b2 gIdx (fVarW 0) (fVarW 1)) fsNil))))) (fz (fSl (fVarW 0) (oSome (fVarW 3)) oNone))))
  gNil) gNil)
  (gSeq (gSet 4 (fz (b2 gAdd (fz (fSl (fVarW 0) oNone (oSome (fVarW 1)))) (fz (fSl (fVarW 0) (oSome (fz (b2 gAdd (fVarW 1) (fC (.int 1))))) oNone)))))
  (gSeq (gRet (b2 gAdd (fz (b2 gAdd (fz (fSl (fVarW 4) oNone (oSome (fVarW 3)))) (fz (fLst (fsCons (b2 gIdx (fVarW 0) (fVarW 1)) fsNil))))) (fz (fSl (fVarW 4) (oSome (fVarW 3)) oNone))))
  gNil)))))
def M__law_moved_item : List D → Option D := runF 5 B__law_moved_item
/-- _law_written: 0 items, 1 marks, 2 name, 3 values, 4 item -/
def B__law_written : Rho → Option Fl :=
  (gSeq (gSet 0 (fz (fLst (fsCons (fTup (fsCons (fC (.str "text")) (fsCons (fC (.int 0)) fsNil))) (fsCons (fTup (fsCons (fC (.str "text")) (fsCons (fC (.int 1000000)) fsNil))) (fsCons (fTup (fsCons (fC (.str "text")) (fsCons (fC (.int 1000001)) fsNil))) (fsCons (fTup (fsCons (fC (.str "text")) (fsCons (b2 gSub (fC (.int 0)) (fC (.int 1))) fsNil))) (fsCons (fTup (fsCons (fC (.str "text")) (fsCons (fC (.bl true)) fsNil))) (fsCons (fTup (fsCons (fC (.str "text")) (fsCons (fC (.str "5")) fsNil))) fsNil)))))))))
  (gSeq (gSet 0 (fz (b2 gAdd (fVarW 0) (fz (fLst (fsCons (fTup (fsCons (fC (.str "mark")) (fsCons (fC (.str "a")) fsNil))) (fsCons (fTup (fsCons (fC (.str "mark")) (fsCons (fC (.str "abcdefgh")) fsNil))) (fsCons (fTup (fsCons (fC (.str "mark")) (fsCons (fC (.str "abcdefghi")) fsNil))) (fsCons (fTup (fsCons (fC (.str "mark")) (fsCons (fC (.str "")) fsNil))) (fsCons (fTup (fsCons (fC (.str "mark")) (fsCons (fC (.str "A")) fsNil))) fsNil))))))))))
  (gSeq (gSet 0 (fz (b2 gAdd (fVarW 0) (fz (fLst (fsCons (fTup (fsCons (fC (.str "ref")) (fsCons (fC (.str "a")) fsNil))) (fsCons (fTup (fsCons (fC (.str "break")) fsNil)) (fsCons (fTup (fsCons (fC (.str "break")) (fsCons (fC (.int 1)) fsNil))) (fsCons (fTup (fsCons (fC (.str "Text")) (fsCons (fC (.int 5)) fsNil))) (fsCons (fz (fLst (fsCons (fC (.str "text")) (fsCons (fC (.int 5)) fsNil)))) (fsCons (fTup (fsCons (fC (.str "text")) (fsCons (fC (.int 5)) (fsCons (fC (.int 5)) fsNil)))) (fsCons (fTup fsNil) fsNil))))))))))))
  (gSeq (gSet 0 (fz (b2 gAdd (fVarW 0) (fz (fLst (fsCons (fTup (fsCons (fC (.str "text")) fsNil)) (fsCons (fTup (fsCons (fC (.str "mark")) (fsCons (fC (.int 5)) fsNil))) (fsCons (fC .non) (fsCons (fC (.str "break")) (fsCons (fC (.int 7)) fsNil))))))))))
  (gSeq (gSet 1 (u1 gTuple (fz (fComp (fSeq (fTup (fsCons (fC (.str "a")) (fsCons (fC (.str "b")) (fsCons (fC (.str "c")) (fsCons (fC (.str "d")) (fsCons (fC (.str "e")) (fsCons (fC (.str "f")) (fsCons (fC (.str "g")) (fsCons (fC (.str "h")) (fsCons (fC (.str "i")) fsNil))))))))))) [2] (tName 2) cYes (fTup (fsCons (fC (.str "mark")) (fsCons (fVar 2) fsNil)))))))
  (gSeq (gSet 3 (fz (fLst (fsCons (fz (fSl (fVarW 1) oNone (oSome (fC (.int 8))))) (fsCons (fVar 1) (fsCons (fz (b2 gMul (fTup (fsCons (fTup (fsCons (fC (.str "break")) fsNil)) fsNil)) (fC (.int 30)))) (fsCons (fz (b2 gMul (fTup (fsCons (fTup (fsCons (fC (.str "break")) fsNil)) fsNil)) (fC (.int 31)))) (fsCons (fTup fsNil) (fsCons (fz (fLst (fsCons (fTup (fsCons (fC (.str "break")) fsNil)) fsNil))) (fsCons (fTup (fsCons (fTup (fsCons (fC (.str "ref")) (fsCons (fC (.str "a")) fsNil))) (fsCons (fTup (fsCons (fC (.str "mark")) (fsCons (fC (.str "a")) fsNil))) fsNil))) fsNil))))))))))
  (gSeq (gSet 3 (fz (b2 gAdd (fVarW 3) (fz (fLst (fsCons (fTup (fsCons (fTup (fsCons (fC (.str "mark")) (fsCons (fC (.str "a")) fsNil))) (fsCons (fTup (fsCons (fC (.str "mark")) (fsCons (fC (.str "a")) fsNil))) fsNil))) (fsCons (fTup (fsCons (fTup (fsCons (fC (.str "ref")) (fsCons (fC (.str "b")) fsNil))) (fsCons (fTup (fsCons (fC (.str "mark")) (fsCons (fC (.str "a")) fsNil))) fsNil))) (fsCons (fTup (fsCons (fC (.str "break")) fsNil)) (fsCons (fTup (fsCons (fTup (fsCons (fC (.str "break")) fsNil)) (fsCons (fC .non) fsNil))) fsNil)))))))))
  (gSeq (gRet (b2 gAdd (fz (b2 gAdd (fVarW 3) (fVarW 0))) (fz (fComp (fSeq (fVar 0)) [4] (tName 4) cYes (fTup (fsCons (fVar 4) fsNil))))))
  gNil))))))))
def M__law_written : List D → Option D := runF 5 B__law_written
/-- is_item: 0 value -/
def B_is_item : Rho → Option Fl :=
  (gSeq (gIf (fOr (nb (tb (u1 (isT "tuple") (fVarW 0)))) (fOr (nb (tb (b3 gLe gLe (fC (.int 1)) (u1 gLen (fVarW 0)) (fC (.int 2))))) (nb (tb (u1 (isT "str") (b2 gIdx (fVarW 0) (fC (.int 0)))))))) (gSeq (gRet (fC (.bl false)))
  gNil) gNil)
  (gSeq (gIf (tb (b2 gEq (u1 gLen (fVarW 0)) (fC (.int 1)))) (gSeq (gRet (b2 gEq (b2 gIdx (fVarW 0) (fC (.int 0))) (fC (.str "break"))))
  gNil) gNil)
  (gSeq (gIf (tb (b2 gEq (b2 gIdx (fVarW 0) (fC (.int 0))) (fC (.str "text")))) (gSeq (gRet (fCall 3 M_is_integer (fsCons (b2 gIdx (fVarW 0) (fC (.int 1))) (fsCons (fC (.int 0)) (fsCons (fC (.int 1000000)) fsNil)))))
  gNil) gNil)
  (gSeq (gRet (vAnd (b2 gIn (b2 gIdx (fVarW 0) (fC (.int 0))) (fTup (fsCons (fC (.str "mark")) (fsCons (fC (.str "ref")) fsNil)))) (fz (fCall 1 M_is_name (fsCons (b2 gIdx (fVarW 0) (fC (.int 1))) fsNil)))))
  gNil))))
def M_is_item : List D → Option D := runF 1 B_is_item
/-- is_numbering: 0 document, 1 value, 2 number -/
def B_is_numbering : Rho → Option Fl :=
  (gSeq (gIf (fOr (nb (tb (u1 (isT "tuple") (fVarW 1)))) (tb (b2 gNe (u1 gLen (fVarW 1)) (u1 gLen (fz (fCall 1 M_mark_names (fsCons (fVar 0) fsNil))))))) (gSeq (gRet (fC (.bl false)))
  gNil) gNil)
  (gSeq (gRet (u1 gAll (fz (fComp (fSeq (fVar 1)) [2] (tName 2) cYes (fz (fCall 3 M_is_integer (fsCons (fVar 2) (fsCons (fC (.int 1)) (fsCons (fC (.int 1000000000)) fsNil)))))))))
  gNil))
def M_is_numbering : List D → Option D := runF 3 B_is_numbering
/-- _law_is_item: 0 value, 1 sign -/
def B__law_is_item : Rho → Option Fl :=
  (gSeq (gIf (fOr (nb (tb (u1 (isT "tuple") (fVarW 0)))) (fOr (tb (b2 gNotIn (u1 gLen (fVarW 0)) (fTup (fsCons (fC (.int 1)) (fsCons (fC (.int 2)) fsNil))))) (nb (tb (u1 (isT "str") (b2 gIdx (fVarW 0) (fC (.int 0)))))))) (gSeq (gRet (fC (.bl false)))
  gNil) gNil)
  (gSeq (gIf (tb (b2 gEq (u1 gLen (fVarW 0)) (fC (.int 1)))) (gSeq (gRet (b2 gEq (b2 gIdx (fVarW 0) (fC (.int 0))) (fC (.str "break"))))
  gNil) gNil)
  (gSeq (gIf (tb (b2 gEq (b2 gIdx (fVarW 0) (fC (.int 0))) (fC (.str "text")))) (gSeq (gRet (fCall 3 M__law_is_integer (fsCons (b2 gIdx (fVarW 0) (fC (.int 1))) (fsCons (fC (.int 0)) (fsCons (fC (.int 1000000)) fsNil)))))
  gNil) gNil)
  (gSeq (gIf (fOr (tb (b2 gNotIn (b2 gIdx (fVarW 0) (fC (.int 0))) (fTup (fsCons (fC (.str "mark")) (fsCons (fC (.str "ref")) fsNil))))) (fOr (nb (tb (u1 (isT "str") (b2 gIdx (fVarW 0) (fC (.int 1)))))) (nb (tb (b3 gLe gLe (fC (.int 1)) (u1 gLen (b2 gIdx (fVarW 0) (fC (.int 1)))) (fC (.int 8))))))) (gSeq (gRet (fC (.bl false)))
  gNil) gNil)
  (gSeq (gRet (b2 gEq (fz (fComp (fSeq (b2 gIdx (fVarW 0) (fC (.int 1)))) [1] (tName 1) (tb (b2 gNotIn (fVarW 1) (fC (.str "abcdefghijklmnopqrstuvwxyz")))) (fVar 1))) (fz (fLst fsNil))))
  gNil)))))
def M__law_is_item : List D → Option D := runF 2 B__law_is_item
/-- _law_is_numbering: 0 document, 1 value, 2 item, 3 number -/
def B__law_is_numbering : Rho → Option Fl :=
  (gSeq (gIf (fOr (nb (tb (u1 (isT "tuple") (fVarW 1)))) (tb (b2 gNe (u1 gLen (fVarW 1)) (u1 gLen (fz (fComp (fSeq (fVar 0)) [2] (tName 2) (tb (b2 gEq (b2 gIdx (fVarW 2) (fC (.int 0))) (fC (.str "mark")))) (fVar 2))))))) (gSeq (gRet (fC (.bl false)))
  gNil) gNil)
  (gSeq (gRet (b2 gEq (fz (fComp (fSeq (fVar 1)) [3] (tName 3) (nb (tb (fz (fCall 3 M__law_is_integer (fsCons (fVar 3) (fsCons (fC (.int 1)) (fsCons (b2 gPow (fC (.int 10)) (fC (.int 9))) fsNil))))))) (fVar 3))) (fz (fLst fsNil))))
  gNil))
def M__law_is_numbering : List D → Option D := runF 4 B__law_is_numbering
/-- is_document: 0 value, 1 item, 2 names -/
def B_is_document : Rho → Option Fl :=
  (gSeq (gIf (fOr (nb (tb (u1 (isT "tuple") (fVarW 0)))) (fOr (nb (tb (b3 gLe gLe (fC (.int 1)) (u1 gLen (fVarW 0)) (fC (.int 30))))) (nb (tb (u1 gAll (fz (fComp (fSeq (fVar 0)) [1] (tName 1) cYes (fz (fCall 1 M_is_item (fsCons (fVar 1) fsNil)))))))))) (gSeq (gRet (fC (.bl false)))
  gNil) gNil)
  (gSeq (gSet 2 (fz (fCall 1 M_mark_names (fsCons (fVar 0) fsNil))))
  (gSeq (gIf (fOr (tb (b2 gGt (u1 gLen (fVarW 2)) (fC (.int 8)))) (tb (b2 gLt (u1 gLenSet (fVarW 2)) (u1 gLen (fVarW 2))))) (gSeq (gRet (fC (.bl false)))
  gNil) gNil)
  (gSeq (gRet (u1 gAll (fz (fComp (fSeq (fVar 0)) [1] (tName 1) (tb (b2 gEq (b2 gIdx (fVarW 1) (fC (.int 0))) (fC (.str "ref")))) (b2 gIn (b2 gIdx (fVarW 1) (fC (.int 1))) (fVarW 2))))))
  gNil))))
def M_is_document : List D → Option D := runF 3 B_is_document
/-- _law_is_document: 0 value, 1 item, 2 names, 3 one, 4 other -/
def B__law_is_document : Rho → Option Fl :=
  (gSeq (gIf (fOr (nb (tb (u1 (isT "tuple") (fVarW 0)))) (nb (tb (b3 gLe gLe (fC (.int 1)) (u1 gLen (fVarW 0)) (fC (.int 30)))))) (gSeq (gRet (fC (.bl false)))
  gNil) gNil)
  (gSeq (gIf (tb (b2 gNe (fz (fComp (fSeq (fVar 0)) [1] (tName 1) (nb (tb (fz (fCall 1 M__law_is_item (fsCons (fVar 1) fsNil))))) (fVar 1))) (fz (fLst fsNil)))) (gSeq (gRet (fC (.bl false)))
  gNil) gNil)
  (gSeq (gSet 2 (fz (u1 gSortS (fz (fComp (fSeq (fVar 0)) [1] (tName 1) (tb (b2 gEq (b2 gIdx (fVarW 1) (fC (.int 0))) (fC (.str "mark")))) (b2 gIdx (fVarW 1) (fC (.int 1))))))))
  (gSeq (gIf (fOr (tb (b2 gGt (u1 gLen (fVarW 2)) (fC (.int 8)))) (tb (b2 gNe (fz (fComp (fZip (fVar 2) (fz (fSl (fVarW 2) (oSome (fC (.int 1))) oNone))) [3, 4] (tTup 2 (tCons (tName 3) (tCons (tName 4) tNil))) (tb (b2 gEq (fVarW 3) (fVarW 4))) (fC (.int 1)))) (fz (fLst fsNil))))) (gSeq (gRet (fC (.bl false)))
  gNil) gNil)
  (gSeq (gRet (b2 gEq (fz (fComp (fSeq (fVar 0)) [1] (tName 1) (fAnd (tb (b2 gEq (b2 gIdx (fVarW 1) (fC (.int 0))) (fC (.str "ref")))) (tb (b2 gNotIn (b2 gIdx (fVarW 1) (fC (.int 1))) (fVarW 2)))) (fVar 1))) (fz (fLst fsNil))))
  gNil)))))
def M__law_is_document : List D → Option D := runF 5 B__law_is_document
/-- _law_paths: 0 value, 1 paths, 2 index, 3 part, 4 path -/
def L__law_paths_0 (self_ : List D → Option D) : Rho → Option Fl :=
  (gSeq (gSet 1 (fz (b2 gAdd (fVarW 1) (fz (fComp (fSeq (fz (fCall 1 self_ (fsCons (fVar 3) fsNil)))) [4] (tName 4) cYes (fz (b2 gAdd (fTup (fsCons (fVar 2) fsNil)) (fVarW 4))))))))
  gNil)
def B__law_paths (self_ : List D → Option D) : Rho → Option Fl :=
  (gSeq (gSet 1 (fz (fLst (fsCons (fTup fsNil) fsNil))))
  (gSeq (gIf (tb (u1 (isT2 "list" "tuple") (fVarW 0))) (gSeq (gFor (fEnum (fVar 0)) (tTup 2 (tCons (tName 2) (tCons (tName 3) tNil))) (L__law_paths_0 self_))
  gNil) gNil)
  (gSeq (gRet (fVar 1))
  gNil)))
def R__law_paths : Nat → List D → Option D
  | 0 => runF 5 gNever
  | n + 1 => runF 5 (B__law_paths (R__law_paths n))
def M__law_paths : List D → Option D := R__law_paths 12
/-- _law_any_value: 0 digits, 1 depth, 2 choice, 3 number, 4 parts, 5 k -/
def B__law_any_value (self_ : List D → Option D) : Rho → Option Fl :=
  (gSeq (gSet 2 (b2 gMod (b2 gIdx (fVarW 0) (fVarW 1)) (fC (.int 12))))
  (gSeq (gSet 3 (b2 gIdx (fz (fLst (fsCons (b2 gSub (b2 gMod (b2 gIdx (fVarW 0) (fz (b2 gAdd (fVarW 1) (fC (.int 1))))) (fC (.int 12))) (fC (.int 2))) (fsCons (b2 gSub (fC (.int 0)) (b2 gPow (fC (.int 10)) (fC (.int 39)))) (fsCons (b2 gPow (fC (.int 10)) (fC (.int 39))) fsNil))))) (b2 gMod (b2 gIdx (fVarW 0) (fz (b2 gAdd (fVarW 1) (fC (.int 2))))) (fC (.int 3)))))
  (gSeq (gIf (fOr (tb (b2 gLt (fVarW 2) (fC (.int 4)))) (tb (b2 gGt (fVarW 1) (fC (.int 3))))) (gSeq (gRet (fVar 3))
  gNil) gNil)
  (gSeq (gIf (tb (b2 gLt (fVarW 2) (fC (.int 7)))) (gSeq (gRet (b2 gIdx (fz (fLst (fsCons (fC (.bl true)) (fsCons (fC (.bl false)) (fsCons (fC .non) fsNil))))) (b2 gSub (fVarW 2) (fC (.int 4)))))
  gNil) gNil)
  (gSeq (gIf (tb (b2 gLt (fVarW 2) (fC (.int 9)))) (gSeq (gRet (b2 gIdx (fz (fLst (fsCons (fC (.str "")) (fsCons (fC (.str "0")) (fsCons (fC (.str "a")) (fsCons (fC (.str "ax")) (fsCons (fC (.str "3")) (fsCons (fC (.str "none")) (fsCons (fC (.str "A")) (fsCons (fC (.str "~")) fsNil)))))))))) (b2 gMod (b2 gIdx (fVarW 0) (fz (b2 gAdd (fVarW 1) (fC (.int 3))))) (fC (.int 8)))))
  gNil) gNil)
  (gSeq (gSet 4 (fz (fComp (fRng rng1 (fsCons (b2 gMod (b2 gIdx (fVarW 0) (fz (b2 gAdd (fVarW 1) (fC (.int 4))))) (fC (.int 4))) fsNil)) [5] (tName 5) cYes (fz (fCall 2 self_ (fsCons (fz (b2 gAdd (fz (fSl (fVarW 0) (oSome (fVarW 5)) oNone)) (fz (fSl (fVarW 0) oNone (oSome (fVarW 5)))))) (fsCons (fz (b2 gAdd (fVarW 1) (fC (.int 1)))) fsNil)))))))
  (gSeq (gRet (fIf (tb (b2 gEq (fVarW 2) (fC (.int 9)))) (fVar 4) (u1 gTuple (fVarW 4))))
  gNil)))))))
def R__law_any_value : Nat → List D → Option D
  | 0 => runF 6 gNever
  | n + 1 => runF 6 (B__law_any_value (R__law_any_value n))
def M__law_any_value : List D → Option D := R__law_any_value 12
/-- _law_change_at: 0 value, 1 path, 2 digits, 3 items -/
def B__law_change_at (self_ : List D → Option D) : Rho → Option Fl :=
  (gSeq (gIf (tb (b2 gEq (fVarW 1) (fTup fsNil))) (gSeq (gRet (fCall 2 M__law_other_value (fsCons (fVar 0) (fsCons (fVar 2) fsNil))))
  gNil) gNil)
  (gSeq (gSet 3 (u1 gList (fVarW 0)))
  (gSeq (gIf (fAnd (tb (b2 gEq (u1 gLen (fVarW 1)) (fC (.int 1)))) (tb (b2 gEq (b2 gMod (b2 gIdx (fVarW 2) (fC (.int 3))) (fC (.int 2))) (fC (.int 0))))) (gSeq (gIceT 3 (gSet 3 (fCall 3 M__law_moved_item (fsCons (fVar 3) (fsCons (b2 gIdx (fVarW 1) (fC (.int 0))) (fsCons (fVar 2) fsNil))))))
  gNil) (gSeq (gSetIx 3 (b2 gIdx (fVarW 1) (fC (.int 0))) (fz (fCall 3 self_ (fsCons (b2 gIdx (fVarW 3) (b2 gIdx (fVarW 1) (fC (.int 0)))) (fsCons (fz (fSl (fVarW 1) (oSome (fC (.int 1))) oNone)) (fsCons (fVar 2) fsNil))))))
  gNil))
  (gSeq (gIceT 3 (gRet (fIf (tb (u1 (isT "list") (fVarW 0))) (fVar 3) (u1 gTuple (fVarW 3)))))
  gNil))))
def R__law_change_at : Nat → List D → Option D
  | 0 => runF 4 gNever
  | n + 1 => runF 4 (B__law_change_at (R__law_change_at n))
def M__law_change_at : List D → Option D := R__law_change_at 12
/-- _law_mutated: 0 value, 1 digits, 2 paths -/
def B__law_mutated : Rho → Option Fl :=
  (gSeq (gSet 2 (fz (fCall 1 M__law_paths (fsCons (fVar 0) fsNil))))
  (gSeq (gRet (fCall 3 M__law_change_at (fsCons (fVar 0) (fsCons (b2 gIdx (fVarW 2) (b2 gMod (b2 gIdx (fVarW 1) (fC (.int 4))) (u1 gLen (fVarW 2)))) (fsCons (fVar 1) fsNil)))))
  gNil))
def M__law_mutated : List D → Option D := runF 3 B__law_mutated
/-- law: 0 script, 1 index, 2 digits, 3 document, 4 size, 5 start, 6 values, 7 numbers, 8 k, 9 row, 10 mutated, 11 value -/
def L_law_0 : Rho → Option Fl :=
  (gSeq (gIf (nb (tb (fz (fCall 2 M__law_same_bool (fsCons (fz (fCall 1 M_is_item (fsCons (fVar 11) fsNil))) (fsCons (fz (fCall 1 M__law_is_item (fsCons (fVar 11) fsNil))) fsNil)))))) (gSeq (gRet (fC (.bl false)))
  gNil) gNil)
  (gSeq (gIf (nb (tb (fz (fCall 2 M__law_same_bool (fsCons (fz (fCall 1 M_is_document (fsCons (fVar 11) fsNil))) (fsCons (fz (fCall 1 M__law_is_document (fsCons (fVar 11) fsNil))) fsNil)))))) (gSeq (gRet (fC (.bl false)))
  gNil) gNil)
  (gSeq (gIf (nb (tb (fz (fCall 2 M__law_same_bool (fsCons (fz (fCall 2 M_is_numbering (fsCons (fVar 3) (fsCons (fVar 11) fsNil)))) (fsCons (fz (fCall 2 M__law_is_numbering (fsCons (fVar 3) (fsCons (fVar 11) fsNil)))) fsNil)))))) (gSeq (gRet (fC (.bl false)))
  gNil) gNil)
  gNil)))
def L_law_1 : Rho → Option Fl :=
  (gSeq (gSet 9 (fz (fSl (fVarW 2) (oSome (fz (b2 gMul (fC (.int 5)) (fVarW 8)))) (oSome (fz (b2 gAdd (fz (b2 gMul (fC (.int 5)) (fVarW 8))) (fC (.int 5))))))))
  (gSeq (gSet 10 (fz (fCall 2 M__law_mutated (fsCons (fVar 3) (fsCons (fVar 9) fsNil)))))
  (gSeq (gSet 6 (fz (b2 gAdd (fVarW 6) (fz (fLst (fsCons (fVar 10) (fsCons (fz (fCall 2 M__law_mutated (fsCons (fVar 10) (fsCons (fz (u1 gRev (fVarW 9))) fsNil)))) (fsCons (fz (fCall 2 M__law_any_value (fsCons (fz (b2 gAdd (fz (fSl (fVarW 2) (oSome (fVarW 8)) oNone)) (fz (fSl (fVarW 2) oNone (oSome (fVarW 8)))))) (fsCons (fC (.int 0)) fsNil)))) fsNil))))))))
  (gSeq (gApp 7 (fz (fCall 2 M__law_mutated (fsCons (fVar 5) (fsCons (fVar 9) fsNil)))))
  gNil))))
def L_law_2 : Rho → Option Fl :=
  (gSeq (gSet 2 (fz (fCall 4 M__law_digits (fsCons (fVar 0) (fsCons (fVar 1) (fsCons (fC (.int 60)) (fsCons (fC (.int 27720)) fsNil)))))))
  (gSeq (gAsg (tTup 2 (tCons (tName 3) (tCons (tName 4) tNil))) (fz (fCall 2 M__law_document (fsCons (fVar 2) (fsCons (fC (.int 4)) fsNil)))))
  (gSeq (gSet 5 (fz (fCall 2 M__law_start (fsCons (fz (fSl (fVarW 2) (oSome (fC (.int 50))) oNone)) (fsCons (fVar 3) fsNil)))))
  (gSeq (gSet 6 (fz (fLst (fsCons (fVar 3) (fsCons (fz (fSl (fVarW 3) (oSome (fC (.int 1))) oNone)) (fsCons (fz (b2 gAdd (fVarW 3) (fz (fSl (fVarW 3) oNone (oSome (fC (.int 1))))))) (fsCons (fz (u1 gRev (fVarW 3))) (fsCons (fz (u1 gList (fVarW 3))) fsNil))))))))
  (gSeq (gSet 7 (fLst (fsCons (fVar 5) (fsCons (fz (fSl (fVarW 5) (oSome (fC (.int 1))) oNone)) (fsCons (fz (b2 gAdd (fVarW 5) (fTup (fsCons (fC (.int 1)) fsNil)))) (fsCons (fz (u1 gList (fVarW 5))) (fsCons (fz (b2 gAdd (fTup (fsCons (fC (.int 0)) fsNil)) (fz (fSl (fVarW 5) (oSome (fC (.int 1))) oNone)))) (fsCons (fz (b2 gAdd (fTup (fsCons (fz (b2 gAdd (b2 gPow (fC (.int 10)) (fC (.int 9))) (fC (.int 1)))) fsNil)) (fz (fSl (fVarW 5) (oSome (fC (.int 1))) oNone)))) (fsCons (fC .non) (fsCons (fTup fsNil) fsNil))))))))))
  (gSeq (gFor (fRng rng1 (fsCons (fC (.int 10)) fsNil)) (tName 8) L_law_1)
  (gSeq (gFor (fSeq (fz (b2 gAdd (fz (b2 gAdd (fz (fCall 0 M__law_written fsNil)) (fVarW 6))) (fVarW 7)))) (tName 11) L_law_0)
  gNil)))))))
def B_law : Rho → Option Fl :=
  (gSeq (gFor (fSeq (fTup (fsCons (fC (.int 0)) (fsCons (fC (.int 1)) (fsCons (fC (.int 2)) (fsCons (fC (.int 3)) fsNil)))))) (tName 1) L_law_2)
  (gSeq (gRet (fC (.bl true)))
  gNil))
def M_law : List D → Option D := runF 12 B_law
end
end PLaw
/-! ### part PT0 -/
namespace PL
open PySem L2

/-! ### the mirrors' words, one step each -/
section
variable {ρ : Rho} {g g1 g2 : Rho → Option Fl} {f fa fb fc fe : Rho → Option D} {c c2 : Rho → Option Bool} {i j l n : Nat} {d : D} {t : Tgt} {src : Rho → Option (List D)} {fs : Rho → Option (List D)} {F : List D → Option D}
@[simp] theorem e_seq : gSeq g1 g2 ρ = (g1 ρ).bind (thenG g2) := (rfl)
@[simp] theorem e_then : thenG g2 (.nx ρ) = g2 ρ := (rfl)
@[simp] theorem e_thenR : thenG g2 (.rt d) = some (.rt d) := (rfl)
@[simp] theorem e_thenB : thenG g2 (.bk ρ) = some (.bk ρ) := (rfl)
@[simp] theorem e_thenC : thenG g2 (.ct ρ) = some (.ct ρ) := (rfl)
@[simp] theorem e_nil : gNil ρ = some (.nx ρ) := (rfl)
@[simp] theorem e_set : gSet i f ρ = (f ρ).map fun d => .nx (ρ.set i (some d)) := (rfl)
@[simp] theorem e_par2 : gPar2 i j fa fb ρ = (fa ρ).bind fun x => (fb ρ).map fun y => .nx ((ρ.set i (some x)).set j (some y)) := (rfl)
@[simp] theorem e_par3 : gPar3 i j l fa fb fc ρ = (fa ρ).bind fun x => (fb ρ).bind fun y => (fc ρ).map fun z => .nx (((ρ.set i (some x)).set j (some y)).set l (some z)) := (rfl)
@[simp] theorem e_ret : gRet f ρ = (f ρ).map .rt := (rfl)
@[simp] theorem e_if : gIf c g1 g2 ρ = (c ρ).bind fun k => if k = true then g1 ρ else g2 ρ := (rfl)
@[simp] theorem e_asg : gAsg t f ρ = (f ρ).bind fun d => (t d ρ).map .nx := (rfl)
@[simp] theorem e_for : gFor src t g ρ = (src ρ).bind fun l => forGo t g l ρ := (rfl)
theorem e_while : gWhile c g ρ = whileGo c g FU ρ := (rfl)
@[simp] theorem e_fz : fz f ρ = (f ρ).map frzD := (rfl)
@[simp] theorem e_var : fVar i ρ = (ρ[i]?.join).bind noOpn := (rfl)
@[simp] theorem e_varW : fVarW i ρ = (ρ[i]?.join).map frzD := (rfl)
@[simp] theorem e_c : fC d ρ = some d := (rfl)
@[simp] theorem e_fsNil : fsNil ρ = some [] := (rfl)
@[simp] theorem e_fsCons : fsCons f fs ρ = (f ρ).bind fun d => (fs ρ).map (d :: ·) := (rfl)
@[simp] theorem e_tup : fTup fs ρ = (fs ρ).bind fun ds => if ds.length ≤ 1000 then some (.tup ds) else none := (rfl)
@[simp] theorem e_lst : fLst fs ρ = (fs ρ).bind fun ds => if ds.length ≤ 1000 then some (.opn ds) else none := (rfl)
@[simp] theorem e_b2 {g : D → D → Option D} : b2 g fa fb ρ = (fa ρ).bind fun x => (fb ρ).bind fun y => g x y := (rfl)
@[simp] theorem e_u1 {g : D → Option D} : u1 g fa ρ = (fa ρ).bind g := (rfl)
@[simp] theorem e_tb : tb f ρ = (f ρ).bind asB := (rfl)
@[simp] theorem e_vb : vb c ρ = (c ρ).map .bl := (rfl)
@[simp] theorem e_nb : nb c ρ = (c ρ).map (!·) := (rfl)
@[simp] theorem e_and : fAnd c c2 ρ = (c ρ).bind fun k => if k = true then c2 ρ else some false := (rfl)
@[simp] theorem e_or : fOr c c2 ρ = (c ρ).bind fun k => if k = true then some true else c2 ρ := (rfl)
@[simp] theorem e_vand : vAnd fa fb ρ = (tb fa ρ).bind fun k => if k = true then fb ρ else some (.bl false) := (rfl)
@[simp] theorem e_vor : vOr fa fb ρ = (tb fa ρ).bind fun k => if k = true then some (.bl true) else fb ρ := (rfl)
@[simp] theorem e_ifx : fIf c fa fb ρ = (c ρ).bind fun k => if k = true then fa ρ else fb ρ := (rfl)
@[simp] theorem e_neg : fNeg fa ρ = (fa ρ).bind fun x => match x with | .int i => some (.int (-i)) | _ => none := (rfl)
@[simp] theorem e_oNone : oNone ρ = some none := (rfl)
@[simp] theorem e_oSome : oSome f ρ = (f ρ).bind fun d => match d with | .int i => some (some i) | _ => none := (rfl)
@[simp] theorem e_sl {fl fh : Rho → Option (Option Int)} : fSl fa fl fh ρ = (fa ρ).bind fun x => (fl ρ).bind fun l => (fh ρ).bind fun h => gSl x l h := (rfl)
@[simp] theorem e_fseq : fSeq f ρ = (f ρ).bind asSeq := (rfl)
@[simp] theorem e_rng {g : List D → Option (List D)} : fRng g fs ρ = (fs ρ).bind g := (rfl)
@[simp] theorem e_zip : fZip fa fb ρ = (fa ρ).bind fun x => (fb ρ).bind fun y => zip2 x y := (rfl)
@[simp] theorem e_comp {vs : List Nat} : fComp src vs t c fe ρ = (src ρ).bind fun l => if small l.length then (compGo t c fe (wipeR ρ vs) l).map .opn else none := (rfl)
@[simp] theorem e_dcomp {vs : List Nat} {ek ev : Rho → Option D} : fDcomp src vs t c ek ev ρ = (src ρ).bind fun l => if small l.length then (dcGo t c ek ev (wipeR ρ vs) l []).map .dic else none := (rfl)
@[simp] theorem e_call : fCall n F fs ρ = (fs ρ).bind fun ds => if ds.length = n then F ds else none := (rfl)
@[simp] theorem e_args {g : List D → Option D} : fArgs g fs ρ = (fs ρ).bind g := (rfl)
@[simp] theorem e_b3 {g g' : D → D → Option D} : b3 g g' fa fb fc ρ = (fa ρ).bind fun x => (fb ρ).bind fun y => (g x y).bind fun z => (asB z).bind fun k => if k = true then (fc ρ).bind fun w => g' y w else some (.bl false) := (rfl)
@[simp] theorem e_yes : cYes ρ = some true := (rfl)
@[simp] theorem e_tname : tName i d ρ = some (ρ.set i (some d)) := (rfl)
@[simp] theorem e_ttup {ts : List D → Rho → Option Rho} {ds : List D} : tTup n ts (.tup ds) ρ = if ds.length = n then ts ds ρ else none := (rfl)
@[simp] theorem e_tcons {ts : List D → Rho → Option Rho} {r : List D} : tCons t ts (d :: r) ρ = (t d ρ).bind (ts r) := (rfl)
@[simp] theorem e_tnil : tNil [] ρ = some ρ := (rfl)
@[simp] theorem e_app : gApp i f ρ = (f ρ).bind fun d => match ρ[i]? with | some (some (.opn ds)) => if ds.length < 16777216 then some (.nx (ρ.set i (some (.opn (ds ++ [d]))))) else none | _ => none := (rfl)
@[simp] theorem e_aug : gAug i f ρ = match ρ[i]?, f ρ with | some (some (.int a)), some (.int b) => some (.nx (ρ.set i (some (.int (a + b))))) | _, _ => none := (rfl)
@[simp] theorem e_retV : gRetV i ρ = match ρ[i]? with | some (some (.opn ds)) => some (.rt (.opn ds)) | _ => none := (rfl)
end
@[simp] theorem g_zero {α : Type} {a : α} {l : List α} : (a :: l)[0]? = some a := (rfl)
theorem run_eq {N : Nat} {g : Rho → Option Fl} {ds : List D} : runF N g ds = match g (ds.map some ++ List.replicate (N - ds.length) none) with | some (.rt d) => some d | some (.nx _) => some .non | _ => none := (rfl)
theorem run_rt {N : Nat} {g : Rho → Option Fl} {ds : List D} {d : D} (h : g (ds.map some ++ List.replicate (N - ds.length) none) = some (.rt d)) : runF N g ds = some d := by rw [run_eq, h]
theorem run_nx {N : Nat} {g : Rho → Option Fl} {ds : List D} {ρ : Rho} (h : g (ds.map some ++ List.replicate (N - ds.length) none) = some (.nx ρ)) : runF N g ds = some .non := by rw [run_eq, h]

/-! ### loops -/
theorem forGo_inv {t : Tgt} {b : Rho → Option Fl} (P : Nat → Rho → Prop) {l : List D} {ρ : Rho} (h0 : P 0 ρ)
    (hs : ∀ i d ρ, l[i]? = some d → P i ρ → ∃ ρ1 ρ2, t d ρ = some ρ1 ∧ b ρ1 = some (.nx ρ2) ∧ P (i + 1) ρ2) : ∃ ρ', forGo t b l ρ = some (.nx ρ') ∧ P l.length ρ' := by
  have gen : ∀ (n i : Nat) (ρ : Rho), l.length - i = n → i ≤ l.length → P i ρ → ∃ ρ', forGo t b (l.drop i) ρ = some (.nx ρ') ∧ P l.length ρ' := by
    intro n
    induction n with
    | zero =>
      intro i ρ hn hi hp
      have : i = l.length := by omega
      subst this
      rw [List.drop_length]
      exact ⟨ρ, rfl, hp⟩
    | succ n ih =>
      intro i ρ hn hi hp
      have hlt : i < l.length := by omega
      obtain ⟨ρ1, ρ2, h1, h2, h3⟩ := hs i l[i] ρ (List.getElem?_eq_getElem hlt) hp
      obtain ⟨ρ', h4, h5⟩ := ih (i + 1) ρ2 (by omega) (by omega) h3
      refine ⟨ρ', ?_, h5⟩
      rw [List.drop_eq_getElem_cons hlt]
      simp only [forGo, h1, h2, Option.bind_some]
      exact h4
  obtain ⟨ρ', h1, h2⟩ := gen l.length 0 ρ (by omega) (by omega) h0
  exact ⟨ρ', by simpa using h1, h2⟩
/-- over a typed list -/
theorem forGo_typed {t : Tgt} {b : Rho → Option Fl} {α : Type} (f : α → D) (P : Nat → Rho → Prop) {xs : List α} {ρ : Rho} (h0 : P 0 ρ)
    (hs : ∀ i x ρ, xs[i]? = some x → P i ρ → ∃ ρ1 ρ2, t (f x) ρ = some ρ1 ∧ b ρ1 = some (.nx ρ2) ∧ P (i + 1) ρ2) : ∃ ρ', forGo t b (xs.map f) ρ = some (.nx ρ') ∧ P xs.length ρ' := by
  have := forGo_inv (t := t) (b := b) P (l := xs.map f) h0 fun i d ρ hd hp => by
    rw [List.getElem?_map] at hd
    obtain ⟨x, h1, rfl⟩ := Option.map_eq_some_iff.mp hd
    exact hs i x ρ h1 hp
  rwa [List.length_map] at this
theorem forGo_cons {t : Tgt} {b : Rho → Option Fl} {d : D} {r : List D} {ρ ρ1 ρ2 : Rho} (h1 : t d ρ = some ρ1) (h2 : b ρ1 = some (.nx ρ2)) : forGo t b (d :: r) ρ = forGo t b r ρ2 := by
  simp only [forGo, h1, h2, Option.bind_some]
theorem whileGo_mono {c : Rho → Option Bool} {b : Rho → Option Fl} {fl : Fl} : ∀ {n m : Nat} {ρ : Rho}, whileGo c b n ρ = some fl → n ≤ m → whileGo c b m ρ = some fl
  | 0, _, _, h, _ => by simp [whileGo] at h
  | n + 1, 0, _, _, hm => by omega
  | n + 1, m + 1, ρ, h, hm => by
    simp only [whileGo] at h ⊢
    cases hc : c ρ with
    | none => rw [hc] at h; simp at h
    | some k =>
      rw [hc] at h
      simp only [Option.bind_some] at h ⊢
      cases k with
      | false => simpa using h
      | true =>
        simp only [if_true] at h ⊢
        cases hb : b ρ with
        | none => rw [hb] at h; simp at h
        | some fl2 =>
          rw [hb] at h
          simp only [Option.bind_some] at h ⊢
          cases fl2 with
          | nx ρ2 => exact whileGo_mono h (by omega)
          | ct ρ2 => exact whileGo_mono h (by omega)
          | bk ρ2 => exact h
          | rt d => exact h
theorem whileGo_succ {c : Rho → Option Bool} {b : Rho → Option Fl} {n : Nat} {ρ : Rho} : whileGo c b (n + 1) ρ = (c ρ).bind fun k => if k = true then (b ρ).bind fun fl => match fl with
    | .nx ρ2 => whileGo c b n ρ2
    | .ct ρ2 => whileGo c b n ρ2
    | .bk ρ2 => some (.nx ρ2)
    | .rt d => some (.rt d) else some (.nx ρ) := rfl
/-- a while that does not begin -/
theorem while_no {c : Rho → Option Bool} {b : Rho → Option Fl} {ρ : Rho} (h : c ρ = some false) : gWhile c b ρ = some (.nx ρ) := by
  show whileGo c b (999999999 + 1) ρ = _
  rw [whileGo_succ, h]
  rfl
/-- a while by a measure -/
theorem whileGo_inv {c : Rho → Option Bool} {b : Rho → Option Fl} (P : Nat → Rho → Prop) (Z : Rho → Prop)
    (hs : ∀ n ρ, P n ρ → (c ρ = some false ∧ Z ρ) ∨ (c ρ = some true ∧ ∃ ρ2 m, m < n ∧ b ρ = some (.nx ρ2) ∧ P m ρ2)) : ∀ (n : Nat) (ρ : Rho), P n ρ → ∃ ρ', whileGo c b (n + 1) ρ = some (.nx ρ') ∧ Z ρ' := by
  intro n
  induction n using Nat.strongRecOn with
  | ind n ih =>
    intro ρ hp
    rcases hs n ρ hp with ⟨h1, h2⟩ | ⟨h1, ρ2, m, hm, h2, h3⟩
    · exact ⟨ρ, by simp [whileGo, h1], h2⟩
    · obtain ⟨ρ', h4, h5⟩ := ih m hm ρ2 h3
      refine ⟨ρ', ?_, h5⟩
      simp only [whileGo, h1, h2, Option.bind_some, if_true]
      exact whileGo_mono h4 (by omega)
theorem while_inv {c : Rho → Option Bool} {b : Rho → Option Fl} (P : Nat → Rho → Prop) (Z : Rho → Prop) {n : Nat} {ρ : Rho} (h0 : P n ρ) (hn : n < FU)
    (hs : ∀ n ρ, P n ρ → (c ρ = some false ∧ Z ρ) ∨ (c ρ = some true ∧ ∃ ρ2 m, m < n ∧ b ρ = some (.nx ρ2) ∧ P m ρ2)) : ∃ ρ', gWhile c b ρ = some (.nx ρ') ∧ Z ρ' := by
  obtain ⟨ρ', h1, h2⟩ := whileGo_inv P Z hs n ρ h0
  exact ⟨ρ', whileGo_mono h1 (by omega), h2⟩
/-- a comprehension over a typed list -/
theorem compGo_typed {t : Tgt} {c : Rho → Option Bool} {e : Rho → Option D} {ρ : Rho} {α : Type} (f : α → D) (r1 : α → Rho) (p : α → Bool) (h : α → D) : ∀ (xs : List α), (∀ x ∈ xs, t (f x) ρ = some (r1 x)) → (∀ x ∈ xs, c (r1 x) = some (p x)) → (∀ x ∈ xs, p x = true → e (r1 x) = some (h x)) →
    compGo t c e ρ (xs.map f) = some ((xs.filter p).map h)
  | [], _, _, _ => rfl
  | x :: xs, h1, h2, h3 => by
    have ih := compGo_typed f r1 p h xs (fun y hy => h1 y (List.mem_cons_of_mem _ hy)) (fun y hy => h2 y (List.mem_cons_of_mem _ hy)) fun y hy => h3 y (List.mem_cons_of_mem _ hy)
    simp only [List.map_cons, compGo, h1 x List.mem_cons_self, h2 x List.mem_cons_self, Option.bind_some]
    cases hp : p x with
    | false => simp [hp, ih]
    | true => simp [hp, ih, h3 x List.mem_cons_self hp]
theorem zipD_map {α β : Type} (f : α → D) (g : β → D) : ∀ (xs : List α) (ys : List β), zipD (xs.map f) (ys.map g) = (xs.zip ys).map fun p => .tup [f p.1, g p.2]
  | [], ys => by simp [zipD]
  | _ :: _, [] => by simp [zipD]
  | x :: xs, y :: ys => by simp [zipD, zipD_map f g xs ys]
end PL
/-! ### part PT1 -/
namespace PL
open PySem L2

/-! ### documents -/
inductive Item where
  | text (n : Int) | mark (s : Str) | ref (s : Str) | brk
abbrev Doc := List Item
def itemD : Item → D
  | .text n => .tup [.str "text", .int n]
  | .mark s => .tup [.str "mark", .str s]
  | .ref s => .tup [.str "ref", .str s]
  | .brk => .tup [.str "break"]
def docD (d : Doc) : D := .tup (d.map itemD)
def numD (ν : List Int) : D := .tup (ν.map .int)
def Item.isMark : Item → Bool
  | .mark _ => true
  | _ => false
def Item.isRef : Item → Bool
  | .ref _ => true
  | _ => false
def Item.isText : Item → Bool
  | .text _ => true
  | _ => false
def Item.isBrk : Item → Bool
  | .brk => true
  | _ => false
def Item.name : Item → Str
  | .mark s => s
  | .ref s => s
  | _ => "break"
/-- the marks' names in order -/
def names (d : Doc) : List Str := (d.filter Item.isMark).map Item.name
def strOk (s : Str) : Bool := s.cps.all (· < 0x110000)
theorem okS {n : Nat} {s : Str} : okD n (.str s) = strOk s := by cases n <;> simp only [okD, strOk]
theorem okI {n : Nat} {i : Int} : okD n (.int i) = true := by cases n <;> simp only [okD]
theorem okB {n : Nat} {i : Bool} : okD n (.bl i) = true := by cases n <;> simp only [okD]
theorem okN {n : Nat} : okD n .non = true := by cases n <;> simp only [okD]
theorem okL_iff {n : Nat} : ∀ {xs : List D}, okL n xs = true ↔ ∀ x ∈ xs, okD n x = true
  | [] => by simp [okL]
  | x :: xs => by simp [okL, okL_iff (xs := xs)]
theorem okT {n : Nat} {xs : List D} : okD (n + 1) (.tup xs) = true ↔ ∀ x ∈ xs, okD n x = true := by
  rw [← okL_iff]; simp only [okD]
theorem okLs {n : Nat} {xs : List D} : okD (n + 1) (.lst xs) = true ↔ ∀ x ∈ xs, okD n x = true := by
  rw [← okL_iff]; simp only [okD]
theorem gEq_eq {x y : D} (h1 : okD DEEP x = true) (h2 : okD DEEP y = true) : gEq x y = some (.bl (eqD x y)) := by unfold gEq; rw [h1, h2]; rfl
theorem gNe_eq {x y : D} (h1 : okD DEEP x = true) (h2 : okD DEEP y = true) : gNe x y = some (.bl (!eqD x y)) := by unfold gNe; rw [h1, h2]; rfl
theorem eqD_str {a b : Str} : eqD (.str a) (.str b) = decide (a = b) := by
  simp only [eqD]
  rw [Bool.eq_iff_iff]; simp
theorem eqD_int {a b : Int} : eqD (.int a) (.int b) = decide (a = b) := by
  simp only [eqD]
  rw [Bool.eq_iff_iff]; simp
theorem s_text : strOk "text" = true := by decide +kernel
theorem s_mark : strOk "mark" = true := by decide +kernel
theorem s_ref : strOk "ref" = true := by decide +kernel
theorem s_break : strOk "break" = true := by decide +kernel
def kind : Item → Str
  | .text _ => "text"
  | .mark _ => "mark"
  | .ref _ => "ref"
  | .brk => "break"
theorem idx0 (it : Item) : gIdx (itemD it) (.int 0) = some (.str (kind it)) := by cases it <;> rfl
theorem idx1_text {n : Int} : gIdx (itemD (.text n)) (.int 1) = some (.int n) := (rfl)
theorem idx1_mark {n : Str} : gIdx (itemD (.mark n)) (.int 1) = some (.str n) := (rfl)
theorem idx1_ref {n : Str} : gIdx (itemD (.ref n)) (.int 1) = some (.str n) := (rfl)
theorem kindOk (it : Item) : strOk (kind it) = true := by
  cases it
  · exact s_text
  · exact s_mark
  · exact s_ref
  · exact s_break
theorem lit_text : decide (("text" : Str) = "text") = true ∧ decide (("text" : Str) = "mark") = false ∧ decide (("text" : Str) = "ref") = false ∧ decide (("text" : Str) = "break") = false := by decide +kernel
theorem lit_mark : decide (("mark" : Str) = "text") = false ∧ decide (("mark" : Str) = "mark") = true ∧ decide (("mark" : Str) = "ref") = false ∧ decide (("mark" : Str) = "break") = false := by decide +kernel
theorem lit_ref : decide (("ref" : Str) = "text") = false ∧ decide (("ref" : Str) = "mark") = false ∧ decide (("ref" : Str) = "ref") = true ∧ decide (("ref" : Str) = "break") = false := by decide +kernel
theorem lit_break : decide (("break" : Str) = "text") = false ∧ decide (("break" : Str) = "mark") = false ∧ decide (("break" : Str) = "ref") = false ∧ decide (("break" : Str) = "break") = true := by decide +kernel
theorem kind_eq (it : Item) : decide (kind it = "text") = it.isText ∧ decide (kind it = "mark") = it.isMark ∧ decide (kind it = "ref") = it.isRef ∧ decide (kind it = "break") = it.isBrk := by
  cases it
  · exact lit_text
  · exact lit_mark
  · exact lit_ref
  · exact lit_break
theorem kq {f : Rho → Option D} {ρ : Rho} {it : Item} (h : f ρ = some (itemD it)) :
    b2 gEq (b2 gIdx f (fC (.int 0))) (fC (.str "text")) ρ = some (.bl it.isText) ∧ b2 gEq (b2 gIdx f (fC (.int 0))) (fC (.str "mark")) ρ = some (.bl it.isMark) ∧
    b2 gEq (b2 gIdx f (fC (.int 0))) (fC (.str "ref")) ρ = some (.bl it.isRef) ∧ b2 gEq (b2 gIdx f (fC (.int 0))) (fC (.str "break")) ρ = some (.bl it.isBrk) := by
  obtain ⟨k1, k2, k3, k4⟩ := kind_eq it
  have go : ∀ (z : Str) (b : Bool), strOk z = true → decide (kind it = z) = b → b2 gEq (b2 gIdx f (fC (.int 0))) (fC (.str z)) ρ = some (.bl b) := fun z b hz hb => by
    simp only [e_b2, h, e_c, Option.bind_some, idx0]
    rw [gEq_eq (by rw [okS]; exact kindOk it) (by rw [okS]; exact hz), eqD_str, hb]
  exact ⟨go _ _ s_text k1, go _ _ s_mark k2, go _ _ s_ref k3, go _ _ s_break k4⟩

/-! ### characters and pages -/
/-- decimal digits of a number's text -/
def dig (n : Int) : Int := ((toString n : Str).length : Nat)
/-- what stands behind an item that begins at p; len: how long a name's number is -/
def stepP (size : Int) (len : Str → Int) (p : Int) : Item → Int
  | .text n => p + n
  | .mark _ => p
  | .ref s => p + len s
  | .brk => (p + size - 1) / size * size
def placesL (size : Int) (len : Str → Int) : Int → Doc → List Int
  | _, [] => []
  | p, it :: r => p :: placesL size len (stepP size len p it) r
def endP (size : Int) (len : Str → Int) : Int → Doc → Int
  | p, [] => p
  | p, it :: r => endP size len (stepP size len p it) r
/-- the number that a name has -/
def numOf : List Str → List Int → Str → Int
  | n :: ns, v :: vs, s => if n = s then v else numOf ns vs s
  | _, _, _ => 0
def lenOf (d : Doc) (ν : List Int) (s : Str) : Int := dig (numOf (names d) ν s)
def startsT (d : Doc) (size : Int) (ν : List Int) : List Int := placesL size (lenOf d ν) 0 d
def pagesOf (size : Int) : Doc → List Int → List Int
  | .mark _ :: r, p :: ps => (p / size + 1) :: pagesOf size r ps
  | _ :: r, _ :: ps => pagesOf size r ps
  | _, _ => []
def pagesT (d : Doc) (size : Int) (ν : List Int) : List Int := pagesOf size d (startsT d size ν)
theorem placesL_len (size : Int) (len : Str → Int) : ∀ (d : Doc) (p : Int), (placesL size len p d).length = d.length
  | [], _ => rfl
  | it :: r, p => by simp [placesL, placesL_len size len r]

/-- a document: names that differ, every reference has its mark, texts are not negative; sizes that are let in -/
structure WF (d : Doc) : Prop where
  nd : (names d).Nodup
  refs : ∀ s, Item.ref s ∈ d → s ∈ names d
  texts : ∀ n, Item.text n ∈ d → 0 ≤ n ∧ n ≤ 1000000
  sok : ∀ it ∈ d, strOk it.name = true
  len : d.length ≤ 100000
/-- a numbering's numbers -/
def NumOk (k : Nat) (ν : List Int) : Prop := ν.length = k ∧ ∀ n ∈ ν, 0 ≤ n ∧ n ≤ 1000000000000
end PL
/-! ### part PT2 -/
namespace PL
open PySem L2 PLaw

/-! ### step words over data -/
@[simp] theorem no_int {i : Int} : noOpn (.int i) = some (.int i) := (rfl)
@[simp] theorem no_str {i : Str} : noOpn (.str i) = some (.str i) := (rfl)
@[simp] theorem no_bl {i : Bool} : noOpn (.bl i) = some (.bl i) := (rfl)
@[simp] theorem no_non : noOpn .non = some .non := (rfl)
@[simp] theorem no_tup {i : List D} : noOpn (.tup i) = some (.tup i) := (rfl)
@[simp] theorem no_lst {i : List D} : noOpn (.lst i) = some (.lst i) := (rfl)
@[simp] theorem no_scr {i : List Int} : noOpn (.scr i) = some (.scr i) := (rfl)
@[simp] theorem no_item {i : Item} : noOpn (itemD i) = some (itemD i) := by cases i <;> rfl
@[simp] theorem no_doc {i : Doc} : noOpn (docD i) = some (docD i) := (rfl)
@[simp] theorem no_num {i : List Int} : noOpn (numD i) = some (numD i) := (rfl)
@[simp] theorem fr_int {i : Int} : frzD (.int i) = .int i := (rfl)
@[simp] theorem fr_str {i : Str} : frzD (.str i) = .str i := (rfl)
@[simp] theorem fr_bl {i : Bool} : frzD (.bl i) = .bl i := (rfl)
@[simp] theorem fr_non : frzD .non = .non := (rfl)
@[simp] theorem fr_tup {i : List D} : frzD (.tup i) = .tup i := (rfl)
@[simp] theorem fr_lst {i : List D} : frzD (.lst i) = .lst i := (rfl)
@[simp] theorem fr_opn {i : List D} : frzD (.opn i) = .lst i := (rfl)
@[simp] theorem fr_scr {i : List Int} : frzD (.scr i) = .scr i := (rfl)
@[simp] theorem fr_dic {i : List (Key × D)} : frzD (.dic i) = .dic i := (rfl)
@[simp] theorem fr_item {i : Item} : frzD (itemD i) = itemD i := by cases i <;> rfl
@[simp] theorem fr_doc {i : Doc} : frzD (docD i) = docD i := (rfl)
@[simp] theorem fr_num {i : List Int} : frzD (numD i) = numD i := (rfl)
@[simp] theorem sq_doc {i : Doc} : asSeq (docD i) = some (i.map itemD) := (rfl)
@[simp] theorem sq_num {i : List Int} : asSeq (numD i) = some (i.map .int) := (rfl)
@[simp] theorem sq_lst {i : List D} : asSeq (.lst i) = some i := (rfl)
@[simp] theorem sq_tup {i : List D} : asSeq (.tup i) = some i := (rfl)
@[simp] theorem ns_doc {i : Doc} : noStr (docD i) = true := (rfl)
@[simp] theorem ns_num {i : List Int} : noStr (numD i) = true := (rfl)
@[simp] theorem ns_lst {i : List D} : noStr (.lst i) = true := (rfl)
@[simp] theorem ns_tup {i : List D} : noStr (.tup i) = true := (rfl)
@[simp] theorem ix_item0 {i : Item} : gIdx (itemD i) (.int 0) = some (.str (kind i)) := idx0 i
@[simp] theorem ix_text {n : Int} : gIdx (itemD (.text n)) (.int 1) = some (.int n) := (rfl)
@[simp] theorem ix_mark {n : Str} : gIdx (itemD (.mark n)) (.int 1) = some (.str n) := (rfl)
@[simp] theorem ix_ref {n : Str} : gIdx (itemD (.ref n)) (.int 1) = some (.str n) := (rfl)
@[simp] theorem q_text {i : Item} : gEq (.str (kind i)) (.str "text") = some (.bl i.isText) := by rw [gEq_eq (by rw [okS]; exact kindOk i) (by rw [okS]; exact s_text), eqD_str, (kind_eq i).1]
@[simp] theorem q_mark {i : Item} : gEq (.str (kind i)) (.str "mark") = some (.bl i.isMark) := by rw [gEq_eq (by rw [okS]; exact kindOk i) (by rw [okS]; exact s_mark), eqD_str, (kind_eq i).2.1]
@[simp] theorem q_ref {i : Item} : gEq (.str (kind i)) (.str "ref") = some (.bl i.isRef) := by rw [gEq_eq (by rw [okS]; exact kindOk i) (by rw [okS]; exact s_ref), eqD_str, (kind_eq i).2.2.1]
@[simp] theorem q_brk {i : Item} : gEq (.str (kind i)) (.str "break") = some (.bl i.isBrk) := by rw [gEq_eq (by rw [okS]; exact kindOk i) (by rw [okS]; exact s_break), eqD_str, (kind_eq i).2.2.2]
@[simp] theorem nq_mark {i : Item} : gNe (.str (kind i)) (.str "mark") = some (.bl !i.isMark) := by rw [gNe_eq (by rw [okS]; exact kindOk i) (by rw [okS]; exact s_mark), eqD_str, (kind_eq i).2.1]
@[simp] theorem nq_ref {i : Item} : gNe (.str (kind i)) (.str "ref") = some (.bl !i.isRef) := by rw [gNe_eq (by rw [okS]; exact kindOk i) (by rw [okS]; exact s_ref), eqD_str, (kind_eq i).2.2.1]
@[simp] theorem nq_brk {i : Item} : gNe (.str (kind i)) (.str "break") = some (.bl !i.isBrk) := by rw [gNe_eq (by rw [okS]; exact kindOk i) (by rw [okS]; exact s_break), eqD_str, (kind_eq i).2.2.2]
@[simp] theorem nq_text {i : Item} : gNe (.str (kind i)) (.str "text") = some (.bl !i.isText) := by rw [gNe_eq (by rw [okS]; exact kindOk i) (by rw [okS]; exact s_text), eqD_str, (kind_eq i).1]
@[simp] theorem as_bl {b : Bool} : asB (.bl b) = some b := (rfl)
@[simp] theorem eq_int {a b : Int} : gEq (.int a) (.int b) = some (.bl (decide (a = b))) := by rw [gEq_eq okI okI, eqD_int]
@[simp] theorem ne_int {a b : Int} : gNe (.int a) (.int b) = some (.bl !(decide (a = b))) := by rw [gNe_eq okI okI, eqD_int]
@[simp] theorem lt_int {a b : Int} : gLt (.int a) (.int b) = some (.bl (decide (a < b))) := (rfl)
@[simp] theorem le_int {a b : Int} : gLe (.int a) (.int b) = some (.bl (decide (a ≤ b))) := (rfl)
@[simp] theorem gt_int {a b : Int} : gGt (.int a) (.int b) = some (.bl (decide (b < a))) := (rfl)
@[simp] theorem ge_int {a b : Int} : gGe (.int a) (.int b) = some (.bl (decide (b ≤ a))) := (rfl)
@[simp] theorem add_int {a b : Int} : gAdd (.int a) (.int b) = some (.int (a + b)) := (rfl)
@[simp] theorem sub_int {a b : Int} : gSub (.int a) (.int b) = some (.int (a - b)) := (rfl)
theorem mul_int {a b : Int} (h : CMulB a b = true) : gMul (.int a) (.int b) = some (.int (a * b)) := by simp [gMul, h]
theorem cmB {a b : Int} (h : a.natAbs < 2 ^ 64 ∨ b.natAbs < 2 ^ 64) : CMulB a b = true := by
  refine cdec_iff.mpr ?_
  omega
theorem mod_int {a b : Int} (h : 0 < b) : gMod (.int a) (.int b) = some (.int (a % b)) := by simp [gMod, h]
theorem div_int {a b : Int} (h : 0 < b) (h2 : b < 1073741824) : gFdiv (.int a) (.int b) = some (.int (a / b)) := by
  have : cdec (0 < b ∧ b < 1073741824) = true := cdec_iff.mpr ⟨h, h2⟩
  simp [gFdiv, this]
@[simp] theorem len_tup {xs : List D} : gLen (.tup xs) = some (.int xs.length) := (rfl)
@[simp] theorem len_lst {xs : List D} : gLen (.lst xs) = some (.int xs.length) := (rfl)
@[simp] theorem len_scr {xs : List Int} : gLen (.scr xs) = some (.int xs.length) := (rfl)
@[simp] theorem len_doc {xs : Doc} : gLen (docD xs) = some (.int xs.length) := by simp [docD]
@[simp] theorem len_num {xs : List Int} : gLen (numD xs) = some (.int xs.length) := by simp [numD]
@[simp] theorem tuple_lst {xs : List D} : gTuple (.lst xs) = some (.tup xs) := (rfl)
@[simp] theorem isb_bl {b : Bool} : isT "bool" (.bl b) = some (.bl true) := by cases b <;> rfl
@[simp] theorem isl_lst {b : List D} : isT "list" (.lst b) = some (.bl true) := (rfl)
@[simp] theorem ist_tup {b : List D} : isT "tuple" (.tup b) = some (.bl true) := (rfl)
@[simp] theorem ist_num {b : List Int} : isT "tuple" (numD b) = some (.bl true) := (rfl)
theorem gStr_int {n : Int} (h : n.natAbs < 2 ^ 100) : gStr (.int n) = some (.str (toString n)) := by
  have : n.natAbs.log2 < 1920 := by
    by_cases h0 : n.natAbs = 0
    · rw [h0]; decide
    · exact (Nat.log2_lt h0).mpr (Nat.lt_trans h (by decide +kernel))
  simp [gStr, cdec_iff.mpr this]
@[simp] theorem dix {kvs : List (Key × D)} {y : D} : gDix (.dic kvs) y = (keyD y).bind fun k => lookK k kvs := (rfl)
@[simp] theorem key_str {s : Str} : keyD (.str s) = some (.inr s) := (rfl)
theorem small_le' {n : Nat} (h : n ≤ 16777216) : small n = true := decide_eq_true h

/-! ### digits of a number -/
theorem ofString_len (s : String) : (Str.ofString s).length = s.length := by
  unfold Str.length Str.ofString
  rw [PySem.cpsOfBytes_string]
  simp [String.length_toList]
theorem dig_eq {n : Int} (h : 0 ≤ n) : dig n = ((Nat.repr n.toNat).length : Nat) := by
  obtain ⟨k, rfl⟩ := Int.eq_ofNat_of_zero_le h
  show (((Str.ofString (Int.repr (k : Int))).length : Nat) : Int) = _
  rw [ofString_len]
  rfl
theorem dig_le {n : Int} {k : Nat} (h : 0 ≤ n) (hk : 0 < k) : dig n ≤ k ↔ n < 10 ^ k := by
  rw [dig_eq h, Int.ofNat_le, Nat.length_repr_le_iff hk]
  have : (n.toNat : Int) = n := Int.toNat_of_nonneg h
  constructor
  · intro h1
    have h2 : (n.toNat : Int) < ((10 ^ k : Nat) : Int) := Int.ofNat_lt.mpr h1
    rw [this] at h2
    simpa using h2
  · intro h1
    have h2 : (n.toNat : Int) < ((10 ^ k : Nat) : Int) := by rw [this]; simpa using h1
    exact Int.ofNat_lt.mp h2
theorem dig_pos {n : Int} (h : 0 ≤ n) : 1 ≤ dig n := by
  rw [dig_eq h]
  have : 0 < (Nat.repr n.toNat).length := by
    rcases Nat.eq_zero_or_pos (Nat.repr n.toNat).length with h0 | h0
    · exfalso
      have h1 := Nat.toList_repr (n := n.toNat)
      have h2 : (Nat.repr n.toNat).toList.length = 0 := by rw [String.length_toList]; exact h0
      rw [h1] at h2
      have := Nat.length_toDigits_pos (b := 10) (n := n.toNat)
      omega
    · exact h0
  omega
theorem dig_mono {a b : Int} (h0 : 0 ≤ a) (h : a ≤ b) : dig a ≤ dig b := by
  have hb : 0 ≤ b := Int.le_trans h0 h
  have h1 := dig_pos hb
  obtain ⟨k, hk⟩ := Int.eq_ofNat_of_zero_le (a := dig b) (by omega)
  have hk0 : 0 < k := by omega
  have := (dig_le hb hk0).mp (by omega)
  rw [hk]
  exact (dig_le h0 hk0).mpr (by omega)
theorem dig_12 {n : Int} (h : 0 ≤ n) (h2 : n ≤ 1000000000000) : dig n ≤ 13 := (dig_le (k := 13) h (by decide)).mpr (by omega)
end PL
/-! ### part PT3 -/
namespace PL
open PySem L2 PLaw

/-! ### names -/
theorem names_run {d : Doc} (h : d.length ≤ 1000000) {N : Nat} {t1 : Rho} : compGo (tName 1) (tb (b2 gEq (b2 gIdx (fVarW 1) (fC (.int 0))) (fC (.str "mark")))) (b2 gIdx (fVarW 1) (fC (.int 1))) [t1.head?.getD none, none] (d.map itemD) = some ((names d).map .str) := by
  rw [compGo_typed itemD (fun x => [t1.head?.getD none, some (itemD x)]) Item.isMark (fun x => .str x.name) d (fun x _ => by simp) (fun x _ => by simp) (fun x _ hx => by
    cases x <;> simp [Item.isMark] at hx
    simp [Item.name])]
  simp [names]
theorem M_names {d : Doc} (h : d.length ≤ 1000000) : M_mark_names [docD d] = some (.opn ((names d).map .str)) := by
  apply run_rt
  have := names_run h (N := 0) (t1 := [some (docD d)])
  simp at this
  simp [B_mark_names, this, wipeR, small_le' (show d.length ≤ 16777216 by omega)]
theorem M_lnames {d : Doc} (h : d.length ≤ 1000000) : M__law_names [docD d] = some (.opn ((names d).map .str)) := M_names h

/-! ### starts -/
theorem names_cons {it : Item} {d : Doc} : names (it :: d) = if it.isMark then it.name :: names d else names d := by
  unfold names
  by_cases h : it.isMark = true <;> simp [h]
theorem names_len (d : Doc) : (names d).length ≤ d.length := by
  unfold names
  rw [List.length_map]
  exact List.length_filter_le _ _
/-- the dict of the numbers -/
def dicN (ns : List Str) (ν : List Int) : List (Key × D) := (ns.zip ν).map fun p => (.inr p.1, .int p.2)
theorem put_new {ns : List Str} {ν : List Int} {s : Str} {n : Int} (h : s ∉ ns) : putKD (dicN ns ν) (.inr s) (.int n) = dicN ns ν ++ [(.inr s, .int n)] := by
  unfold putKD
  rw [if_neg]
  simp only [dicN, List.any_map, List.any_eq_true, not_exists, not_and]
  intro p hp hk
  have : p.1 = s := by simpa using hk
  exact h (this ▸ (List.of_mem_zip (a := p.1) (b := p.2) hp).1)
theorem dicN_app (ns : List Str) (ν : List Int) (ms : List Str) (μ : List Int) (h : ns.length = ν.length) : dicN (ns ++ ms) (ν ++ μ) = dicN ns ν ++ dicN ms μ := by
  unfold dicN
  rw [List.zip_append h, List.map_append]
theorem dc_go {a b c d e f g h : Option D} : ∀ (ms : List Str) (μ : List Int) (ns : List Str) (ν : List Int), (ns ++ ms).Nodup → ns.length = ν.length →
    dcGo (tTup 2 (tCons (tName 4) (tCons (tName 5) tNil))) cYes (fVar 4) (fVar 5) [a, b, c, d, none, none, e, f, g] (zipD (ms.map .str) (μ.map .int)) (dicN ns ν) = some (dicN ns ν ++ dicN ms μ)
  | [], μ, ns, ν, _, _ => by simp [zipD, dcGo, dicN]
  | _ :: _, [], ns, ν, _, _ => by simp [zipD, dcGo, dicN]
  | s :: ms, n :: μ, ns, ν, hd, hl => by
    have hs : s ∉ ns := fun hm => by
      rw [List.nodup_append] at hd
      exact hd.2.2 s hm s (by simp) rfl
    have ih := dc_go (a := a) (b := b) (c := c) (d := d) (e := e) (f := f) (g := g) (h := h) ms μ (ns ++ [s]) (ν ++ [n]) (by simpa using hd) (by simp [hl])
    rw [dicN_app _ _ _ _ hl] at ih
    have e1 : dicN [s] [n] = [(.inr s, .int n)] := rfl
    rw [e1] at ih
    have e2 : dicN (s :: ms) (n :: μ) = (.inr s, .int n) :: dicN ms μ := rfl
    simp only [List.map_cons, zipD, dcGo]
    simp [put_new hs, ih, e2]
theorem look_dic : ∀ (ns : List Str) (ν : List Int) (s : Str), s ∈ ns → ns.length = ν.length → lookK (.inr s) (dicN ns ν) = some (.int (numOf ns ν s))
  | n :: ns, v :: ν, s, h, hl => by
    have e2 : dicN (n :: ns) (v :: ν) = (.inr n, .int v) :: dicN ns ν := rfl
    rw [e2]
    simp only [lookK, numOf, Sum.inr.injEq]
    by_cases hn : n = s
    · simp [hn]
    · simp only [hn, if_false]
      exact look_dic ns ν s (by rcases List.mem_cons.mp h with h | h; exact absurd h.symm hn; exact h) (by simpa using hl)
  | [], _, s, h, _ => by simp at h
  | _ :: _, [], s, h, hl => by simp at hl
theorem numOf_ok : ∀ (ns : List Str) (ν : List Int) (s : Str) (k : Nat), NumOk k ν → 0 ≤ numOf ns ν s ∧ numOf ns ν s ≤ 1000000000000
  | [], _, s, k, h => by simp [numOf]
  | _ :: _, [], s, k, h => by simp [numOf]
  | n :: ns, v :: ν, s, k, h => by
    simp only [numOf]
    split
    · exact h.2 v (by simp)
    · exact numOf_ok ns ν s ν.length ⟨rfl, fun n hn => h.2 n (by simp [hn])⟩
theorem lenOf_ok {d : Doc} {ν : List Int} {k : Nat} (h : NumOk k ν) (s : Str) : 1 ≤ lenOf d ν s ∧ lenOf d ν s ≤ 13 :=
  have := numOf_ok (names d) ν s k h
  ⟨dig_pos this.1, dig_12 this.1 this.2⟩
theorem str_len {n : Int} (h : 0 ≤ n ∧ n ≤ 1000000000000) : (gStr (.int n)).bind gLen = some (.int (dig n)) := by
  rw [gStr_int (by omega)]
  have h1 := dig_12 h.1 h.2
  have h2 : (toString n : Str).length ≤ 16777216 := by
    unfold dig at h1
    omega
  simp only [Option.bind_some, gLen, small_le' h2, if_true]
  rfl
/-- sizes of pages -/
def SizeOk (s : Int) : Prop := 1 ≤ s ∧ s ≤ 1000000
theorem step_ok {size : Int} {len : Str → Int} (hs : SizeOk size) (hl : ∀ s, 1 ≤ len s ∧ len s ≤ 13) {p : Int} {it : Item} (ht : ∀ n, it = .text n → 0 ≤ n ∧ n ≤ 1000000) (hp : 0 ≤ p) : p ≤ stepP size len p it ∧ stepP size len p it ≤ p + 1000000 := by
  cases it with
  | text n => have := ht n rfl; simp only [stepP]; omega
  | mark s => simp only [stepP]; omega
  | ref s => have := hl s; simp only [stepP]; omega
  | brk =>
    simp only [stepP]
    have h1 := Int.mul_ediv_self_le (x := p + size - 1) (k := size) (by have := hs.1; omega)
    have h2 := Int.lt_mul_ediv_self_add (x := p + size - 1) (k := size) (by have := hs.1; omega)
    have h3 := hs.1
    have h4 := hs.2
    rw [Int.mul_comm] at h1 h2
    omega
theorem starts_loop {d : Doc} {size : Int} {ν : List Int} {k : Nat} (hr : (names d).length = ν.length) (hν : NumOk k ν) (hs : SizeOk size) {a b : Option D} : ∀ (l : Doc) (acc : List D) (p : Int) (x : Option D), (∀ s, Item.ref s ∈ l → s ∈ names d) → (∀ n, Item.text n ∈ l → 0 ≤ n ∧ n ≤ 1000000) →
    acc.length + l.length ≤ 16000000 → 0 ≤ p → ∃ x', forGo (tName 8) L_starts_0 (l.map itemD) [some (docD d), some (.int size), some (numD ν), some (.dic (dicN (names d) ν)), a, b, some (.opn acc), some (.int p), x] =
      some (.nx [some (docD d), some (.int size), some (numD ν), some (.dic (dicN (names d) ν)), a, b, some (.opn (acc ++ (placesL size (lenOf d ν) p l).map .int)), some (.int (endP size (lenOf d ν) p l)), x'])
  | [], acc, p, x, _, _, _, _ => ⟨x, by simp [forGo, placesL, endP]⟩
  | it :: l, acc, p, x, h1, h2, h3, h4 => by
    have hst := step_ok hs (lenOf_ok (d := d) hν) (it := it) (p := p) (fun n e => h2 n (by rw [e]; simp)) h4
    obtain ⟨x', ih⟩ := starts_loop hr hν hs (a := a) (b := b) l (acc ++ [.int p]) (stepP size (lenOf d ν) p it) (some (itemD it)) (fun s hs => h1 s (by simp [hs])) (fun n hn => h2 n (by simp [hn])) (by simp at h3 ⊢; omega) (by omega)
    refine ⟨x', ?_⟩
    have hs1 := hs.1
    have hs2 := hs.2
    have hacc : acc.length < 16777216 := by simp at h3; omega
    rw [List.map_cons, forGo_cons (ρ1 := [some (docD d), some (.int size), some (numD ν), some (.dic (dicN (names d) ν)), a, b, some (.opn acc), some (.int p), some (itemD it)]) (by simp) (ρ2 := [some (docD d), some (.int size), some (numD ν), some (.dic (dicN (names d) ν)), a, b, some (.opn (acc ++ [.int p])), some (.int (stepP size (lenOf d ν) p it)), some (itemD it)]), ih]
    · simp [placesL, endP]
    · cases it with
      | text n => simp [L_starts_0, hacc, Item.isText, stepP]
      | mark n => simp [L_starts_0, hacc, Item.isText, Item.isRef, Item.isBrk, stepP]
      | ref n =>
        have hm := h1 n (by simp)
        have := str_len (numOf_ok (names d) ν n k hν)
        simp [L_starts_0, hacc, Item.isText, Item.isRef, Item.isBrk, stepP, look_dic _ _ _ hm hr, this, lenOf]
      | brk =>
        have hm : CMulB ((p + size - 1) / size) size = true := cmB (.inr (by omega))
        simp [L_starts_0, hacc, Item.isText, Item.isRef, Item.isBrk, stepP, div_int (show 0 < size by omega) (show size < 1073741824 by omega), mul_int hm]
theorem M_starts_eq {d : Doc} {size : Int} {ν : List Int} (hd : WF d) (hν : NumOk (names d).length ν) (hs : SizeOk size) : M_starts [docD d, .int size, numD ν] = some (.opn ((startsT d size ν).map .int)) := by
  have hn := names_len d
  have hlen := hd.len
  obtain ⟨x', hl⟩ := starts_loop (d := d) (a := none) (b := none) hν.1.symm hν hs d [] 0 none hd.refs hd.texts (by simp; omega) (by omega)
  apply run_rt
  have dcg := dc_go (a := some (docD d)) (b := some (.int size)) (c := some (numD ν)) (d := none) (e := none) (f := none) (g := none) (h := none) (names d) ν [] [] (by simpa using hd.nd) rfl
  have e0 : dicN [] [] = [] := rfl
  rw [e0, List.nil_append] at dcg
  have sm : small (zipD ((names d).map .str) (ν.map .int)).length = true := small_le' (by rw [zipD_len]; simp; omega)
  simp [B_starts, M_names (show d.length ≤ 1000000 by omega), zip2, sm, wipeR, dcg, hl, startsT]
end PL
/-! ### part PT4 -/
namespace PL
open PySem L2 PLaw

/-! ### the law's own places -/
theorem ix_of : ∀ (ns : List Str) (s : Str), s ∈ ns → ∃ j, idxD (.str s) (ns.map .str) = some j ∧ j < ns.length ∧ ∀ ν : List Int, ns.length = ν.length → ν[j]? = some (numOf ns ν s)
  | [], s, h => by simp at h
  | n :: ns, s, h => by
    by_cases hn : n = s
    · refine ⟨0, ?_, by simp, fun ν hl => ?_⟩
      · simp [idxD, eqD_str, hn]
      · cases ν with
        | nil => simp at hl
        | cons v ν => simp [numOf, hn]
    · obtain ⟨j, h1, h2, h3⟩ := ix_of ns s (by rcases List.mem_cons.mp h with h | h; exact absurd h.symm hn; exact h)
      refine ⟨j + 1, ?_, by simp; omega, fun ν hl => ?_⟩
      · simp [idxD, eqD_str, hn, h1]
      · cases ν with
        | nil => simp at hl
        | cons v ν => simp [numOf, hn, h3 ν (by simpa using hl)]
theorem names_ok {d : Doc} (h : ∀ it ∈ d, strOk it.name = true) : ∀ s ∈ names d, strOk s = true := fun s hs => by
  simp only [names, List.mem_map, List.mem_filter] at hs
  obtain ⟨it, ⟨h1, _⟩, rfl⟩ := hs
  exact h it h1
theorem atI_nat {α : Type} {xs : List α} {j : Nat} {x : α} (h : xs[j]? = some x) : atI xs (j : Int) = some x := by
  have hl := (List.getElem?_eq_some_iff.mp h).1
  unfold atI
  have : ixN xs.length (j : Int) = some j := by
    simp [ixN]
    omega
  rw [this]
  exact h
theorem gIndex_of {ns : List Str} {s : Str} (ho : ∀ s ∈ ns, strOk s = true) (h : s ∈ ns) {j : Nat} (hj : idxD (.str s) (ns.map .str) = some j) : gIndex (.lst (ns.map .str)) (.str s) = some (.int (j : Nat)) := by
  have h1 : okD DEEP (.lst (ns.map .str)) = true := by
    rw [show DEEP = (DEEP - 1) + 1 by decide, okLs]
    intro x hx
    obtain ⟨y, hy, rfl⟩ := List.mem_map.mp hx
    rw [okS]; exact ho y hy
  have h2 : okD DEEP (.str s) = true := by rw [okS]; exact ho s h
  simp [gIndex, h1, h2, hj]
/-- up to the next page's begin, one by one -/
theorem brk_while {size p : Int} (hs : SizeOk size) (hp : 0 ≤ p) {a c : Option D} {acc : Option D} :
    gWhile (fAnd (tb (b2 gEq (b2 gIdx (fVarW 5) (fC (.int 0))) (fC (.str "break")))) (tb (b2 gGt (b2 gMod (fVarW 4) (fVarW 1)) (fC (.int 0))))) L__law_places_0 [a, some (.int size), c, acc, some (.int p), some (itemD .brk)] =
      some (.nx [a, some (.int size), c, acc, some (.int ((p + size - 1) / size * size)), some (itemD .brk)]) := by
  have hs1 := hs.1
  have hs2 := hs.2
  have c1 := Int.mul_ediv_self_le (x := p + size - 1) (k := size) (by omega)
  have c2 := Int.lt_mul_ediv_self_add (x := p + size - 1) (k := size) (by omega)
  have c3 : size * ((p + size - 1) / size) = (p + size - 1) / size * size := Int.mul_comm _ _
  have c4 : ((p + size - 1) / size * size) % size = 0 := Int.mul_emod_left _ _
  generalize (p + size - 1) / size * size = e at c3 c4 ⊢
  rw [c3] at c1 c2
  obtain ⟨ρ', h1, h2⟩ := while_inv (c := fAnd (tb (b2 gEq (b2 gIdx (fVarW 5) (fC (.int 0))) (fC (.str "break")))) (tb (b2 gGt (b2 gMod (fVarW 4) (fVarW 1)) (fC (.int 0))))) (b := L__law_places_0)
    (ρ := [a, some (.int size), c, acc, some (.int p), some (itemD .brk)])
    (fun n ρ => ∃ q : Int, ρ = [a, some (.int size), c, acc, some (.int q), some (itemD .brk)] ∧ p ≤ q ∧ q ≤ e ∧ n = (e - q).toNat)
    (fun ρ => ρ = [a, some (.int size), c, acc, some (.int e), some (itemD .brk)]) (n := (e - p).toNat) ⟨p, rfl, by omega, by omega, rfl⟩ (by unfold FU; omega) (by
      rintro n ρ ⟨q, rfl, q1, q2, rfl⟩
      by_cases hq : q = e
      · left
        subst hq
        simp [mod_int (show 0 < size by omega), c4]
      · right
        have : 0 < q % size := by
          have h0 : 0 ≤ q % size := Int.emod_nonneg _ (by omega)
          rcases Int.lt_or_eq_of_le h0 with h | h
          · exact h
          · exfalso
            have hd : size ∣ e - q := Int.dvd_sub (Int.dvd_of_emod_eq_zero c4) (Int.dvd_of_emod_eq_zero h.symm)
            have := Int.le_of_dvd (by omega) hd
            omega
        refine ⟨by simp [mod_int (show 0 < size by omega), this, Item.isBrk], _, (e - (q + 1)).toNat, by omega, ?_, ⟨q + 1, rfl, by omega, by omega, rfl⟩⟩
        simp [L__law_places_0])
  rw [h1, h2]
theorem nobrk_while {size p : Int} {it : Item} (h : it.isBrk = false) {a c : Option D} {acc : Option D} :
    gWhile (fAnd (tb (b2 gEq (b2 gIdx (fVarW 5) (fC (.int 0))) (fC (.str "break")))) (tb (b2 gGt (b2 gMod (fVarW 4) (fVarW 1)) (fC (.int 0))))) L__law_places_0 [a, some (.int size), c, acc, some (.int p), some (itemD it)] =
      some (.nx [a, some (.int size), c, acc, some (.int p), some (itemD it)]) := by
  exact while_no (by simp [h])
theorem lplaces_loop {d : Doc} {size : Int} {ν : List Int} (hr : (names d).length = ν.length) (hν : NumOk (names d).length ν) (hs : SizeOk size) (hd : d.length ≤ 1000000) (ho : ∀ s ∈ names d, strOk s = true) : ∀ (l : Doc) (acc : List D) (p : Int) (x : Option D), (∀ s, Item.ref s ∈ l → s ∈ names d) → (∀ n, Item.text n ∈ l → 0 ≤ n ∧ n ≤ 1000000) →
    acc.length + l.length ≤ 16000000 → 0 ≤ p → ∃ x', forGo (tName 5) L__law_places_1 (l.map itemD) [some (docD d), some (.int size), some (numD ν), some (.opn acc), some (.int p), x] =
      some (.nx [some (docD d), some (.int size), some (numD ν), some (.opn (acc ++ (placesL size (lenOf d ν) p l).map .int)), some (.int (endP size (lenOf d ν) p l)), x'])
  | [], acc, p, x, _, _, _, _ => ⟨x, by simp [forGo, placesL, endP]⟩
  | it :: l, acc, p, x, h1, h2, h3, h4 => by
    have hst := step_ok hs (lenOf_ok (d := d) hν) (it := it) (p := p) (fun n e => h2 n (by rw [e]; simp)) h4
    obtain ⟨x', ih⟩ := lplaces_loop hr hν hs hd ho l (acc ++ [.int p]) (stepP size (lenOf d ν) p it) (some (itemD it)) (fun s hs => h1 s (by simp [hs])) (fun n hn => h2 n (by simp [hn])) (by simp at h3 ⊢; omega) (by omega)
    refine ⟨x', ?_⟩
    have hs1 := hs.1
    have hs2 := hs.2
    have hacc : acc.length < 16777216 := by simp at h3; omega
    rw [List.map_cons, forGo_cons (ρ1 := [some (docD d), some (.int size), some (numD ν), some (.opn acc), some (.int p), some (itemD it)]) (by simp) (ρ2 := [some (docD d), some (.int size), some (numD ν), some (.opn (acc ++ [.int p])), some (.int (stepP size (lenOf d ν) p it)), some (itemD it)]), ih]
    · simp [placesL, endP]
    · cases it with
      | text n =>
        have hw := nobrk_while (size := size) (p := p + n) (it := .text n) rfl (a := some (docD d)) (c := some (numD ν)) (acc := some (.opn (acc ++ [.int p])))
        simp [L__law_places_1, hacc, Item.isText, Item.isRef, stepP, hw]
      | mark n =>
        have hw := nobrk_while (size := size) (p := p) (it := .mark n) rfl (a := some (docD d)) (c := some (numD ν)) (acc := some (.opn (acc ++ [.int p])))
        simp [L__law_places_1, hacc, Item.isText, Item.isRef, stepP, hw]
      | ref n =>
        have hm := h1 n (by simp)
        have := str_len (numOf_ok (names d) ν n _ hν)
        obtain ⟨j, j1, j2, j3⟩ := ix_of (names d) n hm
        have e1 := gIndex_of ho hm j1
        have e2 : gIdx (numD ν) (.int (j : Nat)) = some (.int (numOf (names d) ν n)) := by
          show atI _ _ = _
          exact atI_nat (by rw [List.getElem?_map, j3 ν hr]; rfl)
        have hw := nobrk_while (size := size) (p := p + dig (numOf (names d) ν n)) (it := .ref n) rfl (a := some (docD d)) (c := some (numD ν)) (acc := some (.opn (acc ++ [.int p])))
        simp [L__law_places_1, hacc, Item.isText, Item.isRef, stepP, M_lnames hd, e1, e2, this, lenOf, hw]
      | brk => simp [L__law_places_1, hacc, Item.isText, Item.isRef, stepP, brk_while hs h4]
theorem M_lplaces_eq {d : Doc} {size : Int} {ν : List Int} (hd : WF d) (hν : NumOk (names d).length ν) (hs : SizeOk size) : M__law_places [docD d, .int size, numD ν] = some (.opn ((startsT d size ν).map .int)) := by
  have hlen := hd.len
  obtain ⟨x', hl⟩ := lplaces_loop (d := d) hν.1.symm hν hs (by omega) (names_ok hd.sok) d [] 0 none hd.refs hd.texts (by simp; omega) (by omega)
  apply run_rt
  simp [B__law_places, hl, startsT]

/-! ### pages -/
theorem places_nonneg {size : Int} {len : Str → Int} (hs : SizeOk size) (hl : ∀ s, 1 ≤ len s ∧ len s ≤ 13) : ∀ (l : Doc) (p : Int), (∀ n, Item.text n ∈ l → 0 ≤ n ∧ n ≤ 1000000) → 0 ≤ p → ∀ q ∈ placesL size len p l, 0 ≤ q ∧ q ≤ p + 1000000 * l.length
  | [], p, _, _ => by simp [placesL]
  | it :: l, p, h, hp => by
    have hst := step_ok hs hl (it := it) (p := p) (fun n e => h n (by rw [e]; simp)) hp
    intro q hq
    rcases List.mem_cons.mp hq with rfl | hq
    · exact ⟨hp, by simp; omega⟩
    · have := places_nonneg hs hl l _ (fun n hn => h n (by simp [hn])) (by omega) q hq
      simp; omega
theorem pages_go {size : Int} (hs : SizeOk size) {a b c d : Option D} : ∀ (l : Doc) (ps : List Int),
    compGo (tTup 2 (tCons (tName 4) (tCons (tName 5) tNil))) (tb (b2 gEq (b2 gIdx (fVarW 4) (fC (.int 0))) (fC (.str "mark")))) (fz (b2 gAdd (b2 gFdiv (fVarW 5) (fVarW 1)) (fC (.int 1)))) [a, some (.int size), c, d, none, none] (zipD (l.map itemD) (ps.map .int)) =
      some ((pagesOf size l ps).map .int)
  | [], ps => by simp [zipD, compGo, pagesOf]
  | _ :: _, [] => by simp [zipD, compGo, pagesOf]
  | it :: l, p :: ps => by
    have ih := pages_go hs (a := a) (b := b) (c := c) (d := d) l ps
    have hs1 := hs.1
    have hs2 := hs.2
    simp only [List.map_cons, zipD, compGo]
    cases it <;> simp [Item.isMark, ih, pagesOf, div_int (show 0 < size by omega) (show size < 1073741824 by omega)]
theorem M_pages_eq {d : Doc} {size : Int} {ν : List Int} (hd : WF d) (hν : NumOk (names d).length ν) (hs : SizeOk size) : M_pages [docD d, .int size, numD ν] = some (numD (pagesT d size ν)) := by
  have hlen := hd.len
  apply run_rt
  have hp := pages_go hs (a := some (docD d)) (b := none) (c := some (numD ν)) (d := some (.lst ((startsT d size ν).map .int))) d (startsT d size ν)
  have sm : small (zipD (d.map itemD) ((startsT d size ν).map .int)).length = true := small_le' (by rw [zipD_len]; simp; omega)
  simp [B_pages, M_starts_eq hd hν hs, zip2, wipeR, sm, hp, pagesT]
  rfl
theorem lpages_loop {size : Int} (hs : SizeOk size) {a c d : Option D} : ∀ (l : Doc) (ps : List Int) (acc : List Int) (x y : Option D), acc.length + l.length ≤ 16000000 → ∃ x' y',
    forGo (tTup 2 (tCons (tName 5) (tCons (tName 6) tNil))) L__law_pages_0 (zipD (l.map itemD) (ps.map .int)) [a, some (.int size), c, d, some (numD acc), x, y] =
      some (.nx [a, some (.int size), c, d, some (numD (acc ++ pagesOf size l ps)), x', y'])
  | [], ps, acc, x, y, _ => ⟨x, y, by simp [zipD, forGo, pagesOf]⟩
  | _ :: _, [], acc, x, y, _ => ⟨x, y, by simp [zipD, forGo, pagesOf]⟩
  | it :: l, p :: ps, acc, x, y, h => by
    have hs1 := hs.1
    have hs2 := hs.2
    obtain ⟨x', y', ih⟩ := lpages_loop hs (a := a) (c := c) (d := d) l ps (acc ++ if it.isMark then [p / size + 1] else []) (some (itemD it)) (some (.int p)) (by cases it <;> simp [Item.isMark] at h ⊢ <;> omega)
    refine ⟨x', y', ?_⟩
    simp only [List.map_cons, zipD]
    rw [forGo_cons (ρ1 := [a, some (.int size), c, d, some (numD acc), some (itemD it), some (.int p)]) (by simp) (ρ2 := [a, some (.int size), c, d, some (numD (acc ++ if it.isMark then [p / size + 1] else [])), some (itemD it), some (.int p)]), ih]
    · cases it <;> simp [Item.isMark, pagesOf]
    · have e1 : small (acc.length + 1) = true := small_le' (by simp at h; omega)
      cases it <;> simp [L__law_pages_0, Item.isMark, numD, gAdd, e1, div_int (show 0 < size by omega) (show size < 1073741824 by omega)]
theorem M_lpages_eq {d : Doc} {size : Int} {ν : List Int} (hd : WF d) (hν : NumOk (names d).length ν) (hs : SizeOk size) : M__law_pages [docD d, .int size, numD ν] = some (numD (pagesT d size ν)) := by
  have hlen := hd.len
  apply run_rt
  obtain ⟨x', y', hl⟩ := lpages_loop hs (a := some (docD d)) (c := some (numD ν)) (d := some (.lst ((startsT d size ν).map .int))) d (startsT d size ν) [] none none (by simp; omega)
  rw [show numD [] = .tup [] from rfl] at hl
  simp [B__law_pages, M_lplaces_eq hd hν hs, zip2, hl, pagesT]
theorem eqL_int : ∀ (xs ys : List Int), eqL (xs.map .int) (ys.map .int) = decide (xs = ys)
  | [], [] => rfl
  | [], _ :: _ => rfl
  | _ :: _, [] => rfl
  | x :: xs, y :: ys => by simp [eqL, eqD_int, eqL_int xs ys]
theorem ok_num {ν : List Int} : okD DEEP (numD ν) = true := by
  rw [show DEEP = (DEEP - 1) + 1 by decide, numD, okT]
  intro x hx
  obtain ⟨y, hy, rfl⟩ := List.mem_map.mp hx
  exact okI
theorem ok_ints {ν : List Int} : okD DEEP (.lst (ν.map .int)) = true := by
  rw [show DEEP = (DEEP - 1) + 1 by decide, okLs]
  intro x hx
  obtain ⟨y, hy, rfl⟩ := List.mem_map.mp hx
  exact okI
@[simp] theorem eq_num {μ ν : List Int} : gEq (numD μ) (numD ν) = some (.bl (decide (μ = ν))) := by
  rw [gEq_eq ok_num ok_num]; simp [numD, eqD, eqL_int]
@[simp] theorem ne_num {μ ν : List Int} : gNe (numD μ) (numD ν) = some (.bl !(decide (μ = ν))) := by
  rw [gNe_eq ok_num ok_num]; simp [numD, eqD, eqL_int]
@[simp] theorem eq_ints {μ ν : List Int} : gEq (.lst (μ.map .int)) (.lst (ν.map .int)) = some (.bl (decide (μ = ν))) := by
  rw [gEq_eq ok_ints ok_ints]; simp [eqD, eqL_int]
@[simp] theorem ne_ints {μ ν : List Int} : gNe (.lst (μ.map .int)) (.lst (ν.map .int)) = some (.bl !(decide (μ = ν))) := by
  rw [gNe_eq ok_ints ok_ints]; simp [eqD, eqL_int]
@[simp] theorem eq_bl {a b : Bool} : gEq (.bl a) (.bl b) = some (.bl (a == b)) := by
  rw [gEq_eq okB okB]; simp [eqD]
theorem M_same {a b : Bool} : M__law_same_bool [.bl a, .bl b] = some (.bl (a == b)) := by
  apply run_rt
  simp [B__law_same_bool]
theorem M_cons_eq {d : Doc} {size : Int} {ν : List Int} (hd : WF d) (hν : NumOk (names d).length ν) (hs : SizeOk size) : M_is_consistent [docD d, .int size, numD ν] = some (.bl (decide (pagesT d size ν = ν))) := by
  apply run_rt
  simp [B_is_consistent, M_pages_eq hd hν hs]
/-- the pages are a numbering -/
theorem pagesOf_mem {size : Int} : ∀ (l : Doc) (ps : List Int), ∀ x ∈ pagesOf size l ps, ∃ p ∈ ps, x = p / size + 1
  | [], ps => by simp [pagesOf]
  | _ :: _, [] => by simp [pagesOf]
  | it :: l, p :: ps => by
    intro x hx
    have ih := pagesOf_mem (size := size) l ps
    cases it <;> simp only [pagesOf, List.mem_cons] at hx
    · obtain ⟨q, h1, h2⟩ := ih x hx; exact ⟨q, by simp [h1], h2⟩
    · rcases hx with rfl | hx
      · exact ⟨p, by simp, rfl⟩
      · obtain ⟨q, h1, h2⟩ := ih x hx; exact ⟨q, by simp [h1], h2⟩
    · obtain ⟨q, h1, h2⟩ := ih x hx; exact ⟨q, by simp [h1], h2⟩
    · obtain ⟨q, h1, h2⟩ := ih x hx; exact ⟨q, by simp [h1], h2⟩
theorem pagesOf_len {size : Int} : ∀ (l : Doc) (ps : List Int), l.length = ps.length → (pagesOf size l ps).length = (names l).length
  | [], ps, _ => by simp [pagesOf, names]
  | _ :: _, [], h => by simp at h
  | it :: l, p :: ps, h => by
    have ih := pagesOf_len (size := size) l ps (by simpa using h)
    rw [names_cons]
    cases it <;> simp [pagesOf, ih, Item.isMark]
theorem pages_ok {d : Doc} {size : Int} {ν : List Int} (hd : WF d) (hν : NumOk (names d).length ν) (hs : SizeOk size) : NumOk (names d).length (pagesT d size ν) ∧ ∀ x ∈ pagesT d size ν, 1 ≤ x := by
  have key : ∀ x ∈ pagesT d size ν, 1 ≤ x ∧ x ≤ 1000000000000 := fun x hx => by
    obtain ⟨p, hp, rfl⟩ := pagesOf_mem _ _ x hx
    obtain ⟨h1, h2⟩ := places_nonneg hs (lenOf_ok (d := d) hν) d 0 hd.texts (by omega) p hp
    have h3 : 0 ≤ p / size := Int.ediv_nonneg h1 (by have := hs.1; omega)
    have h4 : p / size ≤ p := Int.ediv_le_self _ h1
    have := hd.len
    omega
  exact ⟨⟨pagesOf_len _ _ (by unfold startsT; rw [placesL_len]), fun x hx => by have := key x hx; omega⟩, fun x hx => (key x hx).1⟩
end PL
/-! ### part PT5 -/
namespace PL
open PySem L2 PLaw

/-! ### the script's cells and digits -/
theorem mul_i {a b : Int} (h : a.natAbs < 2 ^ 64 ∨ b.natAbs < 2 ^ 64) : gMul (.int a) (.int b) = some (.int (a * b)) := mul_int (cmB h)
theorem atI_of {α : Type} {xs : List α} {i : Int} (h0 : 0 ≤ i) (h1 : i < xs.length) : ∃ x, xs[i.toNat]? = some x ∧ atI xs i = some x := by
  have hl : i.toNat < xs.length := by omega
  refine ⟨xs[i.toNat], List.getElem?_eq_getElem hl, ?_⟩
  unfold atI ixN
  rw [if_pos h0, if_pos h1]
  exact List.getElem?_eq_getElem hl
/-- a number of a list -/
def atZ (ns : List Int) (i : Int) : Int := ns.getD i.toNat 0
theorem atZ_mem {ns : List Int} {i : Int} (h0 : 0 ≤ i) (h1 : i < ns.length) : atZ ns i ∈ ns := by
  have hl : i.toNat < ns.length := by omega
  unfold atZ
  rw [List.getD_eq_getElem?_getD, List.getElem?_eq_getElem hl]
  exact List.getElem_mem hl
theorem ix_ints {ns : List Int} {i : Int} (h0 : 0 ≤ i) (h1 : i < ns.length) : gIdx (.lst (ns.map .int)) (.int i) = some (.int (atZ ns i)) := by
  obtain ⟨x, h2, h3⟩ := atI_of (xs := ns.map D.int) h0 (by simpa using h1)
  rw [List.getElem?_map] at h2
  obtain ⟨y, h4, rfl⟩ := Option.map_eq_some_iff.mp h2
  show atI _ _ = _
  rw [h3]; unfold atZ; rw [List.getD_eq_getElem?_getD, h4]; rfl
theorem ix_num {ns : List Int} {i : Int} (h0 : 0 ≤ i) (h1 : i < ns.length) : gIdx (numD ns) (.int i) = some (.int (atZ ns i)) := ix_ints h0 h1
theorem ix_scr {ns : List Int} {i : Int} (h0 : 0 ≤ i) (h1 : i < ns.length) : gIdx (.scr ns) (.int i) = some (.int (atZ ns i)) := by
  obtain ⟨x, h2, h3⟩ := atI_of (xs := ns) h0 h1
  simp only [gIdx, h3, atZ, List.getD_eq_getElem?_getD, h2]; rfl
theorem M_cell {ns : List Int} {i : Int} (h : 0 ≤ i) (h2 : i ≤ 1000) : ∃ c, M__law_cell [.scr ns, .int i] = some (.int c) := by
  by_cases h1 : i < ns.length
  · refine ⟨atZ ns i, run_rt ?_⟩
    simp (disch := omega) [B__law_cell, h1, ix_scr]
  · by_cases h0 : ns.length = 0
    · refine ⟨7919 * i + 101, run_rt ?_⟩
      simp (disch := omega) [B__law_cell, h0, mul_i, show ¬ i < 0 by omega]
    · have e1 := Int.emod_nonneg i (b := (ns.length : Int)) (by omega)
      have e2 := Int.emod_lt_of_pos i (b := (ns.length : Int)) (by omega)
      refine ⟨atZ ns (i % ns.length) % 1000003 + 7919 * i, run_rt ?_⟩
      have h3 : ns ≠ [] := fun e => h0 (by simp [e])
      simp (disch := omega) [B__law_cell, h1, mul_i, ix_scr, mod_int, h3]
abbrev primesD : List D := [.int 2147483647, .int 2147483629, .int 2147483587, .int 2147483579, .int 2147483563, .int 2147483549, .int 2147483543, .int 2147483497]
theorem prime_at {j : Int} (h0 : 0 ≤ j) (h1 : j < 8) : ∃ p : Int, gIdx (.tup primesD) (.int j) = some (.int p) ∧ 2147483000 < p ∧ p < 2147483648 := by
  have : j = 0 ∨ j = 1 ∨ j = 2 ∨ j = 3 ∨ j = 4 ∨ j = 5 ∨ j = 6 ∨ j = 7 := by omega
  rcases this with rfl | rfl | rfl | rfl | rfl | rfl | rfl | rfl <;> exact ⟨_, rfl, by decide, by decide⟩
theorem digits_step {pr : D} (hpr : ∀ j : Int, 0 ≤ j → j < 8 → ∃ p : Int, gIdx pr (.int j) = some (.int p) ∧ 2147483000 < p ∧ p < 2147483648) (hfr : frzD pr = pr) {ns : List Int} {i c base r : Int} {k : Nat} {n : D} {acc : List Int} {x y : Option D} (hi : 0 ≤ i ∧ i ≤ 1000) (hb : 0 < base ∧ base ≤ 1000000) (hk : k ≤ 100000) (hl : acc.length ≤ 100000) : ∃ (v r' : Int) (y' : D), 0 ≤ v ∧ v < base ∧
    L__law_digits_0 [some (.scr ns), some (.int i), some n, some (.int base), some pr, some (.int c), some (.int r), some (.opn (acc.map .int)), some (.int (0 + (k : Nat))), y] =
      some (.nx [some (.scr ns), some (.int i), some n, some (.int base), some pr, some (.int c), some (.int r'), some (.opn ((acc ++ [v]).map .int)), some (.int (0 + (k : Nat))), some y']) := by
  obtain ⟨p1, a1, a2, a3⟩ := hpr ((k : Int) % 8) (by omega) (by omega)
  obtain ⟨p2, b1, b2', b3⟩ := hpr ((3 * (k : Int) + i) % 8) (by omega) (by omega)
  obtain ⟨p3, c1, c2, c3⟩ := hpr (((k : Int) + 5) % 8) (by omega) (by omega)
  have m3 := Int.emod_nonneg c (b := p1) (by omega)
  have m4 := Int.emod_lt_of_pos c (b := p1) (by omega)
  simp only [L__law_digits_0, e_seq, e_set]
  simp (disch := omega) only [e_b2, e_varW, e_c, e_fz, List.getElem?_cons_succ, List.getElem?_cons_zero, Option.join_some, Option.map_some, Option.bind_some, fr_int, hfr, fr_scr, mod_int, Int.zero_add, mul_i, add_int, a1, e_then, e_seq, e_set, List.set_cons_succ, List.set_cons_zero, b1, c1]
  generalize hm : (c % p1 * (48271 + 2 * (k : Int) * k) + 7919 * ((k : Int) + 1) * (k + 1) + 104729 * i) % p2 = m
  have m1 : 0 ≤ m := by rw [← hm]; exact Int.emod_nonneg _ (by omega)
  have m2 : m < p2 := by rw [← hm]; exact Int.emod_lt_of_pos _ (by omega)
  simp (disch := omega) only [mul_i, Option.bind_some, mod_int, Option.map_some, fr_int, e_then, e_seq, e_if, e_tb, e_b2, e_varW, List.getElem?_cons_succ, List.getElem?_cons_zero, Option.join_some, e_c, gt_int, as_bl, List.set_cons_succ, List.set_cons_zero]
  have hacc : acc.length < 16777216 := by omega
  by_cases hr : 0 < r
  · refine ⟨r % base, r / base, .int r, Int.emod_nonneg _ (by omega), Int.emod_lt_of_pos _ (by omega), ?_⟩
    simp (disch := omega) [hr, mod_int, div_int, hacc]
  · refine ⟨m * m * m % p3 % base, r / base, .int (m * m * m % p3), Int.emod_nonneg _ (by omega), Int.emod_lt_of_pos _ (by omega), ?_⟩
    simp (disch := omega) [hr, mod_int, div_int, hacc]
/-- digits: so many, each below the base -/
theorem M_digits {ns : List Int} {i count base : Int} (hi : 0 ≤ i ∧ i ≤ 1000) (hb : 0 < base ∧ base ≤ 1000000) (hc : 0 ≤ count ∧ count ≤ 10000) : ∃ ds : List Int, M__law_digits [.scr ns, .int i, .int count, .int base] = some (.opn (ds.map .int)) ∧ ds.length = count ∧ ∀ x ∈ ds, 0 ≤ x ∧ x < base := by
  obtain ⟨c, hcell⟩ := M_cell (ns := ns) hi.1 hi.2
  obtain ⟨ρ', h1, h2⟩ := forGo_typed (t := tName 8) (b := L__law_digits_0) (fun k : Nat => D.int (0 + (k : Nat))) (fun j ρ => ∃ (ds : List Int) (r : Int) (x y : Option D), ρ = [some (.scr ns), some (.int i), some (.int count), some (.int base), some (.tup primesD), some (.int c), some (.int r), some (.opn (ds.map .int)), x, y] ∧ ds.length = j ∧ ∀ x ∈ ds, 0 ≤ x ∧ x < base)
    (xs := List.range count.toNat) (ρ := [some (.scr ns), some (.int i), some (.int count), some (.int base), some (.tup primesD), some (.int c), some (.int (if 10 ^ 18 ≤ c then c else 0)), some (.opn []), none, none]) ⟨[], _, none, none, rfl, rfl, by simp⟩ (by
      rintro j k ρ hj ⟨ds, r, x, y, rfl, hl, hd⟩
      have hjl := (List.getElem?_eq_some_iff.mp hj).1
      have hk : k = j := by
        have := (List.getElem?_eq_some_iff.mp hj).2
        simpa using this.symm
      subst hk
      simp only [List.length_range] at hjl
      obtain ⟨v, r', y', v1, v2, hs⟩ := digits_step (pr := .tup primesD) (fun j h0 h1 => prime_at h0 h1) rfl (ns := ns) (c := c) (r := r) (n := .int count) (x := x) (y := y) (acc := ds) (k := k) hi hb (by omega) (by omega)
      refine ⟨_, _, by simp; rfl, by simpa using hs, ds ++ [v], r', _, some y', rfl, by simp [hl], fun z hz => ?_⟩
      rcases List.mem_append.mp hz with hz | hz
      · exact hd z hz
      · simp at hz; subst hz; exact ⟨v1, v2⟩)
  obtain ⟨ds, r, x, y, rfl, hl, hd⟩ := h2
  refine ⟨ds, run_rt ?_, by rw [hl, List.length_range]; omega, hd⟩
  have e1 : inR count = true := by
    exact cdec_iff.mpr (by omega)
  by_cases hcc : (10 : Int) ^ 18 ≤ c
  · rw [if_pos hcc] at h1
    have hcc' : (1000000000000000000 : Int) ≤ c := by simpa using hcc
    simp at h1
    simp [B__law_digits, hcell, gPow, hcc', rng1, e1, h1]
  · rw [if_neg hcc] at h1
    have hcc' : ¬ (1000000000000000000 : Int) ≤ c := by simpa using hcc
    simp at h1
    simp [B__law_digits, hcell, gPow, hcc', rng1, e1, h1]
end PL
/-! ### part PT6 -/
namespace PL
open PySem L2 PLaw

/-! ### the law's documents -/
def NM : List Str := ["a", "b", "cc", "dog", "e", "f", "g", "h"]
theorem NM_nd : NM.Nodup := by decide +kernel
theorem NM_ok : ∀ s ∈ NM, strOk s = true := by decide +kernel
theorem size_at {j : Int} (h0 : 0 ≤ j) (h1 : j < 4) : ∃ s : Int, gIdx (.lst [.int 1, .int 3, .int 10, .int 97]) (.int j) = some (.int s) ∧ (s = 1 ∨ s = 3 ∨ s = 10 ∨ s = 97) := by
  have : j = 0 ∨ j = 1 ∨ j = 2 ∨ j = 3 := by omega
  rcases this with rfl | rfl | rfl | rfl <;> exact ⟨_, rfl, by decide⟩
theorem names_at {k : Int} (h0 : 1 ≤ k) (h1 : k ≤ 8) : cutD [D.str "a", .str "b", .str "cc", .str "dog", .str "e", .str "f", .str "g", .str "h"] none (some k) = (NM.take k.toNat).map .str := by
  have : k = 1 ∨ k = 2 ∨ k = 3 ∨ k = 4 ∨ k = 5 ∨ k = 6 ∨ k = 7 ∨ k = 8 := by omega
  rcases this with rfl | rfl | rfl | rfl | rfl | rfl | rfl | rfl <;> rfl
theorem cut_lo {α : Type} {xs : List α} {k : Int} (h0 : 0 ≤ k) (h1 : k ≤ xs.length) : cutD xs none (some k) = xs.take k.toNat := by
  obtain ⟨n, rfl⟩ := Int.eq_ofNat_of_zero_le h0
  unfold cutD
  rw [HT.sIx_nat, HT.sIx_none]
  simp
theorem cut_hi {α : Type} {xs : List α} {k : Int} (h0 : 0 ≤ k) (h1 : k ≤ xs.length) : cutD xs (some k) none = xs.drop k.toNat := by
  obtain ⟨n, rfl⟩ := Int.eq_ofNat_of_zero_le h0
  unfold cutD
  rw [HT.sIx_nat, HT.sIx_none]
  have e : min n xs.length = n := by omega
  rw [e]
  exact List.take_of_length_le (by simp)
theorem ix_strs {ns : List Str} {i : Int} (h0 : 0 ≤ i) (h1 : i < ns.length) : ∃ s ∈ ns, gIdx (.lst (ns.map .str)) (.int i) = some (.str s) := by
  obtain ⟨x, h2, h3⟩ := atI_of (xs := ns.map D.str) h0 (by simpa using h1)
  rw [List.getElem?_map] at h2
  obtain ⟨y, h4, rfl⟩ := Option.map_eq_some_iff.mp h2
  exact ⟨y, List.mem_of_getElem? h4, h3⟩
theorem ix_items {ns : Doc} {i : Int} (h0 : 0 ≤ i) (h1 : i < ns.length) : ∃ s, ns[i.toNat]? = some s ∧ gIdx (.lst (ns.map itemD)) (.int i) = some (itemD s) := by
  obtain ⟨x, h2, h3⟩ := atI_of (xs := ns.map itemD) h0 (by simpa using h1)
  rw [List.getElem?_map] at h2
  obtain ⟨y, h4, rfl⟩ := Option.map_eq_some_iff.mp h2
  exact ⟨y, h4, h3⟩
theorem ok_item {it : Item} (h : strOk it.name = true) {n : Nat} : okD (n + 1) (itemD it) = true := by
  cases it
  · rw [itemD, okT]; intro x hx; simp at hx; rcases hx with rfl | rfl
    · rw [okS]; exact s_text
    · exact okI
  · rw [itemD, okT]; intro x hx; simp at hx; rcases hx with rfl | rfl
    · rw [okS]; exact s_mark
    · rw [okS]; exact h
  · rw [itemD, okT]; intro x hx; simp at hx; rcases hx with rfl | rfl
    · rw [okS]; exact s_ref
    · rw [okS]; exact h
  · rw [itemD, okT]; intro x hx; simp at hx; subst hx
    rw [okS]; exact s_break
theorem ok_items {l : Doc} (h : ∀ it ∈ l, strOk it.name = true) : okD DEEP (.lst (l.map itemD)) = true := by
  rw [show DEEP = ((DEEP - 2) + 1) + 1 by decide, okLs]
  intro x hx
  obtain ⟨y, hy, rfl⟩ := List.mem_map.mp hx
  exact ok_item (h y hy)
theorem ok_doc {l : Doc} (h : ∀ it ∈ l, strOk it.name = true) : okD DEEP (docD l) = true := by
  rw [show DEEP = ((DEEP - 2) + 1) + 1 by decide, docD, okT]
  intro x hx
  obtain ⟨y, hy, rfl⟩ := List.mem_map.mp hx
  exact ok_item (h y hy)
theorem ne_nil_items {l : Doc} (h : ∀ it ∈ l, strOk it.name = true) : gNe (.lst (l.map itemD)) (.lst []) = some (.bl !(decide (l = []))) := by
  rw [gNe_eq (ok_items h) (by rfl)]
  cases l <;> simp [eqD, eqL]

/-- what the parts of a document have together -/
structure Parts (nm : List Str) (size : Int) (l : Doc) : Prop where
  nms : (names l).Perm nm
  refs : ∀ s, Item.ref s ∈ l → s ∈ nm
  texts : ∀ n, Item.text n ∈ l → 0 ≤ n ∧ n ≤ 92 * size
theorem names_app (a b : Doc) : names (a ++ b) = names a ++ names b := by simp [names]
theorem names_perm {a b : Doc} (h : a.Perm b) : (names a).Perm (names b) := (h.filter _).map _
theorem Parts.perm {nm : List Str} {size : Int} {l m : Doc} (h : Parts nm size l) (p : l.Perm m) : Parts nm size m where
  nms := (names_perm p.symm).trans h.nms
  refs := fun s hs => h.refs s (p.symm.subset hs)
  texts := fun n hn => h.texts n (p.symm.subset hn)
theorem Parts.ref {nm : List Str} {size : Int} {l : Doc} (h : Parts nm size l) {s : Str} (hs : s ∈ nm) : Parts nm size (l ++ [.ref s]) where
  nms := by rw [names_app]; simpa [names, Item.isMark] using h.nms
  refs := fun t ht => by
    simp at ht
    rcases ht with ht | rfl
    · exact h.refs t ht
    · exact hs
  texts := fun n hn => h.texts n (by simpa using hn)
theorem Parts.text {nm : List Str} {size : Int} {l : Doc} (h : Parts nm size l) {n : Int} (h0 : 0 ≤ n ∧ n ≤ 92 * size) : Parts nm size (l ++ [.text n]) where
  nms := by rw [names_app]; simpa [names, Item.isMark] using h.nms
  refs := fun t ht => h.refs t (by simpa using ht)
  texts := fun n hn => by
    simp at hn
    rcases hn with hn | rfl
    · exact h.texts n hn
    · exact h0
theorem Parts.brks {nm : List Str} {size : Int} {l : Doc} (h : Parts nm size l) (k : Nat) : Parts nm size (l ++ List.replicate k .brk) where
  nms := by
    rw [names_app]
    have : names (List.replicate k Item.brk) = [] := by simp [names, Item.isMark]
    rw [this, List.append_nil]
    exact h.nms
  refs := fun t ht => h.refs t (by simp [List.mem_replicate] at ht; exact ht)
  texts := fun n hn => h.texts n (by simp [List.mem_replicate] at hn; exact hn)
theorem Parts.sok {nm : List Str} {size : Int} {l : Doc} (h : Parts nm size l) (hn : ∀ s ∈ nm, s ∈ NM) : ∀ it ∈ l, strOk it.name = true := fun it hi => by
  cases it with
  | text n => exact s_break
  | brk => exact s_break
  | ref s => exact NM_ok s (hn s (h.refs s hi))
  | mark s => exact NM_ok s (hn s (h.nms.subset (by simp only [names, List.mem_map, List.mem_filter]; exact ⟨.mark s, ⟨hi, rfl⟩, rfl⟩)))
/-- what an item adds at most -/
def wt (size : Int) : Item → Int
  | .text n => n
  | .ref _ => 13
  | .brk => size
  | .mark _ => 0
def wtL (size : Int) : Doc → Int
  | [] => 0
  | it :: l => wt size it + wtL size l
theorem wtL_app {size : Int} : ∀ a b : Doc, wtL size (a ++ b) = wtL size a + wtL size b
  | [], b => by simp [wtL]
  | it :: a, b => by simp only [List.cons_append, wtL, wtL_app a b]; omega
theorem wtL_perm {size : Int} {a b : Doc} (p : a.Perm b) : wtL size a = wtL size b := by
  induction p with
  | nil => rfl
  | cons x _ ih => simp only [wtL, ih]
  | swap x y l => simp only [wtL]; omega
  | trans _ _ h1 h2 => exact h1.trans h2
theorem wtL_marks {size : Int} : ∀ nm : List Str, wtL size (nm.map Item.mark) = 0
  | [] => rfl
  | s :: nm => by simp only [List.map_cons, wtL, wt, wtL_marks nm]; rfl
theorem wtL_brks {size : Int} : ∀ k : Nat, wtL size (List.replicate k Item.brk) = size * (k : Int)
  | 0 => by simp [wtL]
  | k + 1 => by simp only [List.replicate_succ, wtL, wt, wtL_brks k, Int.natCast_succ, Int.mul_add, Int.mul_one]; omega
structure DocOk (d : Doc) (size most : Int) : Prop where
  wf : WF d
  sz : size = 1 ∨ size = 3 ∨ size = 10 ∨ size = 97
  len : d.length ≤ 21
  n1 : 1 ≤ (names d).length
  nm : (names d).length ≤ most
  tx : ∀ n, Item.text n ∈ d → n ≤ 92 * size
  inNM : ∀ s ∈ names d, s ∈ NM
theorem DocOk.size {d : Doc} {size most : Int} (h : DocOk d size most) : SizeOk size := by
  rcases h.sz with rfl | rfl | rfl | rfl <;> exact ⟨by decide, by decide⟩
theorem Parts.doc {nm : List Str} {size most : Int} {l : Doc} (h : Parts nm size l) (hs : size = 1 ∨ size = 3 ∨ size = 10 ∨ size = 97) (hd : nm.Nodup) (hn : ∀ s ∈ nm, s ∈ NM) (h1 : 1 ≤ nm.length) (h2 : nm.length ≤ most) (hl : l.length ≤ 21) : DocOk l size most where
  wf := ⟨h.nms.nodup_iff.mpr hd, fun s hs => h.nms.symm.subset (h.refs s hs), fun n hn => ⟨(h.texts n hn).1, by have := (h.texts n hn).2; omega⟩, h.sok hn, by omega⟩
  sz := hs
  len := hl
  n1 := by rw [h.nms.length_eq]; exact h1
  nm := by rw [h.nms.length_eq]; exact h2
  tx := fun n hn => (h.texts n hn).2
  inNM := fun s hs => hn s (h.nms.subset hs)
/-- a turn over references -/
theorem doc_ref {ds : List Int} {most size : Int} {nm : List Str} {l : Doc} {a x7 x8 x9 x10 : Option D} {k : Nat} (hp : Parts nm size l) (hd : 51 ≤ ds.length) (h1 : 1 ≤ nm.length) (hk : k < 7) (hl : l.length ≤ 1000) : ∃ s ∈ nm,
    L__law_document_2 [some (.lst (ds.map .int)), some (.int most), some (.int size), some (.lst (nm.map .str)), some (.opn (l.map itemD)), a, some (.int (0 + (k : Nat))), x7, x8, x9, x10] =
      some (.nx [some (.lst (ds.map .int)), some (.int most), some (.int size), some (.lst (nm.map .str)), some (.opn ((l ++ [Item.ref s]).map itemD)), a, some (.int (0 + (k : Nat))), x7, x8, x9, x10]) := by
  have e1 := Int.emod_nonneg (atZ ds (10 + (k : Int))) (b := (nm.length : Int)) (by omega)
  have e2 := Int.emod_lt_of_pos (atZ ds (10 + (k : Int))) (b := (nm.length : Int)) (by omega)
  obtain ⟨s, hs, hi⟩ := ix_strs e1 e2
  refine ⟨s, hs, ?_⟩
  have hacc : l.length < 16777216 := by omega
  have h3 : nm ≠ [] := fun e => by rw [e] at h1; simp at h1
  simp (disch := omega) [L__law_document_2, ix_ints, mod_int, hi, hacc, itemD]
/-- a turn over texts -/
theorem doc_text {ds : List Int} {most size : Int} {nm : List Str} {l : Doc} {a x7 x8 x9 x10 : Option D} {k : Nat} (hp : Parts nm size l) (hs : size = 1 ∨ size = 3 ∨ size = 10 ∨ size = 97) (hd : 51 ≤ ds.length) (h0 : ∀ x ∈ ds, 0 ≤ x) (hk : k < 6) (hl : l.length ≤ 1000) : ∃ n y7 y8, (0 ≤ n ∧ n ≤ 92 * size) ∧
    L__law_document_1 [some (.lst (ds.map .int)), some (.int most), some (.int size), some (.lst (nm.map .str)), some (.opn (l.map itemD)), a, some (.int (0 + (k : Nat))), x7, x8, x9, x10] =
      some (.nx [some (.lst (ds.map .int)), some (.int most), some (.int size), some (.lst (nm.map .str)), some (.opn ((l ++ [Item.text n]).map itemD)), a, some (.int (0 + (k : Nat))), y7, y8, x9, x10]) := by
  have g0 : 0 ≤ atZ ds (20 + (k : Int)) := h0 _ (atZ_mem (by omega) (by omega))
  have hacc : l.length < 16777216 := by omega
  generalize hx : atZ ds (20 + (k : Int)) = x at g0
  have e1 := Int.emod_nonneg x (b := size + 3) (by omega)
  have e2 := Int.emod_lt_of_pos x (b := size + 3) (by omega)
  have e3 := Int.emod_nonneg x (b := 3 * size) (by omega)
  have e4 := Int.emod_lt_of_pos x (b := 3 * size) (by omega)
  have hj : ∃ n, gIdx (.lst [.int (x % 7), .int size, .int (size * 8 + x % (size + 3)), .int (size * 89 + x % (size + 3)), .int (x % (3 * size))]) (.int (x / 7 % 5)) = some (.int n) ∧ 0 ≤ n ∧ n ≤ 92 * size := by
    have : x / 7 % 5 = 0 ∨ x / 7 % 5 = 1 ∨ x / 7 % 5 = 2 ∨ x / 7 % 5 = 3 ∨ x / 7 % 5 = 4 := by omega
    rcases this with e | e | e | e | e <;> rw [e] <;> exact ⟨_, rfl, by omega, by omega⟩
  obtain ⟨n, n1, n2⟩ := hj
  refine ⟨n, some (.int x), some (.lst [.int (x % 7), .int size, .int (size * 8 + x % (size + 3)), .int (size * 89 + x % (size + 3)), .int (x % (3 * size))]), n2, ?_⟩
  simp (disch := omega) [L__law_document_1, ix_ints, mod_int, div_int, mul_i, hx, hacc, itemD, n1]
theorem rep_one (k : Int) (x : D) : rep k [x] = List.replicate k.toNat x := by
  unfold rep
  induction k.toNat with
  | zero => rfl
  | succ n ih => rw [List.replicate_succ, List.flatten_cons, ih, List.replicate_succ]; rfl
/-- a turn of the choice -/
theorem doc_pick {ds : List Int} {most size : Int} {nm : List Str} {d l : Doc} {a x6 x7 x8 x10 : Option D} (hp : Parts nm size (d ++ l)) (hn : ∀ s ∈ nm, s ∈ NM) (hd : 51 ≤ ds.length) (hl : (d ++ l).length ≤ 21) (hne : l ≠ []) : ∃ d' l' y10, (d' ++ l').Perm (d ++ l) ∧ l'.length < l.length ∧
    L__law_document_0 [some (.lst (ds.map .int)), some (.int most), some (.int size), some (.lst (nm.map .str)), some (.opn (l.map itemD)), a, x6, x7, x8, some (docD d), x10] =
      some (.nx [some (.lst (ds.map .int)), some (.int most), some (.int size), some (.lst (nm.map .str)), some (.opn (l'.map itemD)), a, x6, x7, x8, some (docD d'), y10]) := by
  have hlp : 0 < l.length := List.length_pos_iff.mpr hne
  simp only [List.length_append] at hl
  have e1 := Int.emod_nonneg (atZ ds (30 + (d.length : Int))) (b := (l.length : Int)) (by omega)
  have e2 := Int.emod_lt_of_pos (atZ ds (30 + (d.length : Int))) (b := (l.length : Int)) (by omega)
  have hj : gMod (.int (atZ ds (30 + (d.length : Int)))) (.int (l.length : Int)) = some (.int (atZ ds (30 + (d.length : Int)) % (l.length : Int))) := mod_int (by omega)
  generalize atZ ds (30 + (d.length : Int)) % (l.length : Int) = j at e1 e2 hj
  obtain ⟨s, hs, hi⟩ := ix_items e1 e2
  have hjl : j.toNat < l.length := by omega
  have hs' : l[j.toNat] = s := (List.getElem?_eq_some_iff.mp hs).2
  refine ⟨d ++ [s], l.take j.toNat ++ l.drop (j.toNat + 1), some (.int j), ?_, ?_, ?_⟩
  · have e : l = l.take j.toNat ++ s :: l.drop (j.toNat + 1) := by
      rw [← hs', ← List.drop_eq_getElem_cons hjl, List.take_append_drop]
    rw [List.append_assoc]
    refine List.Perm.append_left d ?_
    conv => rhs; rw [e]
    exact (List.perm_middle (l₁ := l.take j.toNat)).symm
  · simp; omega
  · have t1 : (j + 1).toNat = j.toNat + 1 := by omega
    have c1 := cut_lo (xs := l.map itemD) e1 (by simp; omega)
    have c2 := cut_hi (xs := l.map itemD) (k := j + 1) (by omega) (by simp; omega)
    rw [t1] at c2
    have hsm : small (d.length + 1) = true := small_le' (by omega)
    have hsm2 : small (j.toNat + (l.length - (j.toNat + 1))) = true := small_le' (by omega)
    simp (disch := omega) [L__law_document_0, ix_ints, hj, hi, docD, gAdd, gSl, c1, c2, hsm, hsm2]
theorem zero_le_of {n : Nat} : (0 : Int) + (n : Int) = n := by omega
theorem rng1_eq {n : Int} (h : 0 ≤ n ∧ n < 2 ^ 62) : rng1 [.int n] = some ((List.range n.toNat).map fun i : Nat => .int (0 + (i : Nat))) := by
  have : inR n = true := cdec_iff.mpr (by omega)
  simp only [rng1, this, if_true]
theorem range_get {n i k : Nat} (h : (List.range n)[i]? = some k) : k = i ∧ i < n := by
  have h1 := (List.getElem?_eq_some_iff.mp h).1
  have h2 := (List.getElem?_eq_some_iff.mp h).2
  simp at h1 h2
  exact ⟨h2.symm, h1⟩
/-- the law's document -/
theorem M_docW {ds : List Int} {most : Int} (hd : 51 ≤ ds.length) (h0 : ∀ x ∈ ds, 0 ≤ x) (hm : 1 ≤ most ∧ most ≤ 8) : ∃ d size, M__law_document [.lst (ds.map .int), .int most] = some (.tup [docD d, .int size]) ∧ DocOk d size most ∧ wtL size d ≤ 78 + 462 * size := by
  obtain ⟨size, s1, s2⟩ := size_at (j := atZ ds 0 % 4) (by omega) (by omega)
  have m1 := Int.emod_nonneg (atZ ds 1) (b := most) (by omega)
  have m2 := Int.emod_lt_of_pos (atZ ds 1) (b := most) (by omega)
  have hk := names_at (k := 1 + atZ ds 1 % most) (by omega) (by omega)
  generalize hnm : NM.take (1 + atZ ds 1 % most).toNat = nm at hk
  have hnl : nm.length = (1 + atZ ds 1 % most).toNat := by
    rw [← hnm, List.length_take]
    have : NM.length = 8 := rfl
    omega
  have hnd : nm.Nodup := by rw [← hnm]; exact NM_nd.sublist (List.take_sublist _ _)
  have hnN : ∀ s ∈ nm, s ∈ NM := fun s hs => by rw [← hnm] at hs; exact List.mem_of_mem_take hs
  have hp0 : Parts nm size (nm.map Item.mark) := by
    refine ⟨?_, fun s hs => by simp at hs, fun n hn => by simp at hn⟩
    have : names (nm.map Item.mark) = nm := by
      unfold names
      rw [List.filter_map, List.map_map]
      have : (Item.isMark ∘ Item.mark) = fun _ => true := rfl
      rw [this]
      have e2 : nm.filter (fun _ => true) = nm := by simp
      rw [e2]
      have : (Item.name ∘ Item.mark) = id := rfl
      rw [this, List.map_id]
    rw [this]
  -- references
  obtain ⟨ρ1, r1, n1, l1, rfl, p1, q1, u1⟩ := forGo_typed (t := tName 6) (b := L__law_document_2) (fun k : Nat => D.int (0 + (k : Nat)))
    (fun j ρ => ∃ (x : Option D) (l : Doc), ρ = [some (.lst (ds.map .int)), some (.int most), some (.int size), some (.lst (nm.map .str)), some (.opn (l.map itemD)), none, x, none, none, none, none] ∧ Parts nm size l ∧ l.length = nm.length + j ∧ wtL size l = 13 * (j : Int))
    (xs := List.range (atZ ds 2 % 7).toNat) (ρ := [some (.lst (ds.map .int)), some (.int most), some (.int size), some (.lst (nm.map .str)), some (.opn ((nm.map Item.mark).map itemD)), none, none, none, none, none, none])
    ⟨none, nm.map Item.mark, rfl, hp0, by simp, by rw [wtL_marks]; rfl⟩ (by
      rintro j k ρ hj ⟨x, l, rfl, hp, hl, hw⟩
      obtain ⟨rfl, hj⟩ := range_get hj
      obtain ⟨s, hs, hr⟩ := doc_ref (ds := ds) (most := most) (a := none) (x7 := none) (x8 := none) (x9 := none) (x10 := none) (k := k) hp hd (by omega) (by omega) (by omega)
      exact ⟨_, _, by simp; rfl, by simpa using hr, _, _, rfl, hp.ref hs, by simp; omega, by rw [wtL_app, hw]; simp only [wtL, wt]; omega⟩)
  simp only [List.length_range] at q1 u1
  -- texts
  obtain ⟨ρ2, r2, _, x2, y2, z2, l2, rfl, p2, q2, u2⟩ := forGo_typed (t := tName 6) (b := L__law_document_1) (fun k : Nat => D.int (0 + (k : Nat)))
    (fun j ρ => ∃ (n : Nat) (x y z : Option D) (l : Doc), ρ = [some (.lst (ds.map .int)), some (.int most), some (.int size), some (.lst (nm.map .str)), some (.opn (l.map itemD)), none, x, y, z, none, none] ∧ Parts nm size l ∧ l.length = l1.length + j ∧ wtL size l ≤ wtL size l1 + (92 * size) * (j : Int))
    (xs := List.range (atZ ds 3 % 6).toNat) (ρ := [some (.lst (ds.map .int)), some (.int most), some (.int size), some (.lst (nm.map .str)), some (.opn (l1.map itemD)), none, n1, none, none, none, none])
    ⟨0, n1, none, none, l1, rfl, p1, by simp, by simp⟩ (by
      rintro j k ρ hj ⟨n, x, y, z, l, rfl, hp, hl, hw⟩
      obtain ⟨rfl, hj⟩ := range_get hj
      obtain ⟨v, y7, y8, hv, hr⟩ := doc_text (ds := ds) (most := most) (a := none) (x7 := y) (x8 := z) (x9 := none) (x10 := none) (k := k) hp s2 hd h0 (by omega) (by omega)
      exact ⟨_, _, by simp; rfl, by simpa using hr, 0, _, _, _, _, rfl, hp.text hv, by simp; omega, by
        have hv2 := hv.2
        rw [wtL_app]; simp only [wtL, wt]; rw [Int.natCast_succ, Int.mul_add, Int.mul_one]; omega⟩)
  simp only [List.length_range] at q2 u2
  have p3 := p2.brks (atZ ds 4 / 3 % 3).toNat
  generalize hall : l2 ++ List.replicate (atZ ds 4 / 3 % 3).toNat Item.brk = all at p3
  have hlen : all.length ≤ 21 := by rw [← hall]; simp; omega
  have hwt : wtL size all ≤ 78 + 462 * size := by
    rw [← hall, wtL_app, wtL_brks]
    have w1 : (92 * size) * ((atZ ds 3 % 6).toNat : Int) ≤ (92 * size) * 5 := Int.mul_le_mul_of_nonneg_left (by omega) (by omega)
    have w2 : size * ((atZ ds 4 / 3 % 3).toNat : Int) ≤ size * 2 := Int.mul_le_mul_of_nonneg_left (by omega) (by omega)
    have w3 : ((atZ ds 2 % 7).toNat : Int) ≤ 6 := by omega
    omega
  obtain ⟨ρ3, r3, d, x3, rfl, hperm⟩ := while_inv (c := tb (b2 gNe (fVarW 4) (fz (fLst fsNil)))) (b := L__law_document_0)
    (ρ := [some (.lst (ds.map .int)), some (.int most), some (.int size), some (.lst (nm.map .str)), some (.opn (all.map itemD)), none, x2, y2, z2, some (docD []), none])
    (fun n ρ => ∃ (d l : Doc) (x : Option D), ρ = [some (.lst (ds.map .int)), some (.int most), some (.int size), some (.lst (nm.map .str)), some (.opn (l.map itemD)), none, x2, y2, z2, some (docD d), x] ∧ (d ++ l).Perm all ∧ n = l.length)
    (fun ρ => ∃ (d : Doc) (x : Option D), ρ = [some (.lst (ds.map .int)), some (.int most), some (.int size), some (.lst (nm.map .str)), some (.opn []), none, x2, y2, z2, some (docD d), x] ∧ d.Perm all) (n := all.length)
    ⟨[], all, none, rfl, by simp, rfl⟩ (by unfold FU; omega) (by
      rintro n ρ ⟨d, l, x, rfl, hpm, rfl⟩
      have hpp := p3.perm hpm.symm
      have hsok : ∀ it ∈ l, strOk it.name = true := fun it hi => hpp.sok hnN it (by simp [hi])
      have hll : (d ++ l).length ≤ 21 := by rw [hpm.length_eq]; exact hlen
      by_cases hl : l = []
      · left
        subst hl
        have e0 := ne_nil_items (l := []) (by simp)
        rw [List.map_nil] at e0
        refine ⟨by simp [e0], d, x, rfl, by simpa using hpm⟩
      · right
        obtain ⟨d', l', y, h1, h2, h3⟩ := doc_pick (ds := ds) (most := most) (a := none) (x6 := x2) (x7 := y2) (x8 := z2) (x10 := x) hpp hnN hd hll hl
        exact ⟨by simp [ne_nil_items hsok, hl], _, l'.length, h2, h3, d', l', y, rfl, h1.trans hpm, rfl⟩)
  refine ⟨d, size, run_rt ?_, (p3.perm hperm.symm).doc s2 hnd hnN (by omega) (by omega) (by rw [hperm.length_eq]; exact hlen), by rw [wtL_perm hperm]; exact hwt⟩
  have c0 : compGo (tName 5) cYes (fTup (fsCons (fC (.str "mark")) (fsCons (fVar 5) fsNil))) [some (.lst (ds.map .int)), some (.int most), some (.int size), some (.lst (nm.map .str)), none, none, none, none, none, none, none] (nm.map .str) = some ((nm.map Item.mark).map itemD) := by
    rw [compGo_typed D.str (fun s => [some (.lst (ds.map .int)), some (.int most), some (.int size), some (.lst (nm.map .str)), none, some (.str s), none, none, none, none, none]) (fun _ => true) (fun s => itemD (.mark s)) nm (fun _ _ => rfl) (fun _ _ => rfl) (fun _ _ _ => by simp [itemD])]
    rw [show nm.filter (fun _ => true) = nm by simp, List.map_map]
    rfl
  have hsm : small nm.length = true := small_le' (by omega)
  have e6 : rng1 [.int (atZ ds 2 % 7)] = _ := rng1_eq (by omega)
  have e7 : rng1 [.int (atZ ds 3 % 6)] = _ := rng1_eq (by omega)
  have hsm2 : small (l2.length + (atZ ds 4 / 3 % 3).toNat) = true := small_le' (by omega)
  have hrep : gMul (.lst [.tup [.str "break"]]) (.int (atZ ds 4 / 3 % 3)) = some (.opn (List.replicate (atZ ds 4 / 3 % 3).toNat (.tup [.str "break"]))) := by
    have : (1 : Nat) ≤ 1000 ∧ -1000 ≤ atZ ds 4 / 3 % 3 ∧ atZ ds 4 / 3 % 3 ≤ 1000 := by omega
    simp only [gMul, List.length_singleton, this, and_self, if_true, rep_one]
  have hall' : l2.map itemD ++ List.replicate (atZ ds 4 / 3 % 3).toNat (.tup [.str "break"]) = all.map itemD := by rw [← hall]; simp [itemD]
  have hadd : gAdd (.lst (l2.map itemD)) (.lst (List.replicate (atZ ds 4 / 3 % 3).toNat (.tup [.str "break"]))) = some (.opn (all.map itemD)) := by
    simp [gAdd, hsm2, hall']
  simp only [docD, List.map_nil] at r3
  simp only [Int.zero_add] at r1 r2
  simp only [B__law_document]
  simp (disch := omega) [ix_ints, mod_int, div_int, s1, gSl, hk, hsm, wipeR, c0, e6, e7, hrep, hadd, -List.map_map, r1, r2, r3]
  rfl
theorem M_doc {ds : List Int} {most : Int} (hd : 51 ≤ ds.length) (h0 : ∀ x ∈ ds, 0 ≤ x) (hm : 1 ≤ most ∧ most ≤ 8) : ∃ d size, M__law_document [.lst (ds.map .int), .int most] = some (.tup [docD d, .int size]) ∧ DocOk d size most := by
  obtain ⟨d, size, h1, h2, _⟩ := M_docW hd h0 hm
  exact ⟨d, size, h1, h2⟩
/-! ### the law's starts -/
theorem start_at {x j : Int} (h0 : 0 ≤ j) (h1 : j < 7) (hx : 0 ≤ x ∧ x < 1000000) : ∃ s : Int, gIdx (.lst [.int 1, .int 9, .int 10, .int 99, .int 100, .int (1 + x), .int 1000000000]) (.int j) = some (.int s) ∧ 1 ≤ s ∧ s ≤ 1000000000 := by
  have : j = 0 ∨ j = 1 ∨ j = 2 ∨ j = 3 ∨ j = 4 ∨ j = 5 ∨ j = 6 := by omega
  rcases this with rfl | rfl | rfl | rfl | rfl | rfl | rfl <;> exact ⟨_, rfl, by omega, by omega⟩
theorem start_turn {ds : List Int} {dd : D} {ν : List Int} {it : Item} {y : Option D} (h0 : ∀ x ∈ ds, 0 ≤ x ∧ x < 1000000) (hl : it.isMark = true → ν.length < ds.length) (hs : ν.length ≤ 100000) : ∃ ν' y', ν'.length = ν.length + (if it.isMark then 1 else 0) ∧ ((∀ n ∈ ν, 1 ≤ n ∧ n ≤ 1000000000) → ∀ n ∈ ν', 1 ≤ n ∧ n ≤ 1000000000) ∧
    L__law_start_0 [some (.lst (ds.map .int)), some dd, some (numD ν), some (itemD it), y] = some (.nx [some (.lst (ds.map .int)), some dd, some (numD ν'), some (itemD it), y']) := by
  by_cases hm : it.isMark = true
  · have hx := h0 _ (atZ_mem (ns := ds) (i := (ν.length : Int)) (by omega) (by have := hl hm; omega))
    have hlt := hl hm
    have hix : gIdx (.lst (ds.map .int)) (.int (ν.length : Int)) = some (.int (atZ ds ν.length)) := ix_ints (by omega) (by omega)
    generalize atZ ds (ν.length : Int) = x at hx hix
    obtain ⟨s, s1, s2⟩ := start_at (x := x) (j := x % 7) (by omega) (by omega) hx
    refine ⟨ν ++ [s], some (.int x), by simp [hm], fun h n hn => ?_, ?_⟩
    · simp at hn
      rcases hn with hn | rfl
      · exact h n hn
      · exact s2
    · have hsm : small (ν.length + 1) = true := small_le' (by omega)
      simp (disch := omega) [L__law_start_0, hm, hix, mod_int, gPow, s1, numD, gAdd, hsm]
  · have hm : it.isMark = false := by simpa using hm
    refine ⟨ν, y, by simp [hm], fun h => h, ?_⟩
    simp [L__law_start_0, hm]
theorem start_loop {ds : List Int} {dd : D} (h0 : ∀ x ∈ ds, 0 ≤ x ∧ x < 1000000) : ∀ (l : Doc) (ν : List Int) (x y : Option D), ν.length + (names l).length ≤ ds.length → ν.length + l.length ≤ 100000 → (∀ n ∈ ν, 1 ≤ n ∧ n ≤ 1000000000) → ∃ ν' x' y', ν'.length = ν.length + (names l).length ∧ (∀ n ∈ ν', 1 ≤ n ∧ n ≤ 1000000000) ∧
    forGo (tName 3) L__law_start_0 (l.map itemD) [some (.lst (ds.map .int)), some dd, some (numD ν), x, y] = some (.nx [some (.lst (ds.map .int)), some dd, some (numD ν'), x', y'])
  | [], ν, x, y, _, _, h => ⟨ν, x, y, by simp [names], h, rfl⟩
  | it :: l, ν, x, y, h1, h2, h3 => by
    rw [names_cons] at h1
    obtain ⟨ν1, y1, l1, b1, r1⟩ := start_turn (ds := ds) (dd := dd) (ν := ν) (it := it) (y := y) h0 (fun hm => by rw [if_pos hm] at h1; simp at h1; omega) (by omega)
    have hl2 : ν1.length + (names l).length = ν.length + (names (it :: l)).length := by
      rw [names_cons, l1]
      by_cases hm : it.isMark = true
      · simp [hm]; omega
      · simp [hm]
    obtain ⟨ν', x', y', l2, b2, r2⟩ := start_loop h0 l ν1 (some (itemD it)) y1 (by rw [hl2, names_cons]; exact h1) (by simp at h2; rw [l1]; split <;> omega) (b1 h3)
    refine ⟨ν', x', y', by rw [l2, hl2], b2, ?_⟩
    rw [List.map_cons, forGo_cons (ρ1 := [some (.lst (ds.map .int)), some dd, some (numD ν), some (itemD it), y]) (by simp) r1, r2]
theorem M_start {ds : List Int} {d : Doc} (h0 : ∀ x ∈ ds, 0 ≤ x ∧ x < 1000000) (hl : (names d).length ≤ ds.length) (hd : d.length ≤ 100000) : ∃ ν, M__law_start [.lst (ds.map .int), docD d] = some (numD ν) ∧ ν.length = (names d).length ∧ ∀ n ∈ ν, 1 ≤ n ∧ n ≤ 1000000000 := by
  obtain ⟨ν, x, y, h1, h2, h3⟩ := start_loop (dd := docD d) h0 d [] none none (by simpa using hl) (by simpa using hd) (by simp)
  refine ⟨ν, run_rt ?_, by simpa using h1, h2⟩
  rw [show numD [] = .tup [] from rfl] at h3
  simp [B__law_start, h3]
end PL
/-! ### part PT7 -/
namespace PL
open PySem L2 PLaw

/-! ### at most, place by place -/
def Le : List Int → List Int → Prop
  | [], [] => True
  | x :: xs, y :: ys => x ≤ y ∧ Le xs ys
  | _, _ => False
theorem Le.refl : ∀ xs : List Int, Le xs xs
  | [] => trivial
  | x :: xs => ⟨Int.le_refl x, Le.refl xs⟩
theorem Le.trans : ∀ {xs ys zs : List Int}, Le xs ys → Le ys zs → Le xs zs
  | [], [], [], _, _ => trivial
  | _ :: _, _ :: _, _ :: _, h, k => ⟨Int.le_trans h.1 k.1, Le.trans h.2 k.2⟩
  | [], [], _ :: _, _, k => k.elim
  | [], _ :: _, _, h, _ => h.elim
  | _ :: _, [], _, h, _ => h.elim
  | _ :: _, _ :: _, [], _, k => k.elim
theorem Le.antisymm : ∀ {xs ys : List Int}, Le xs ys → Le ys xs → xs = ys
  | [], [], _, _ => rfl
  | x :: xs, y :: ys, h, k => by rw [Int.le_antisymm h.1 k.1, Le.antisymm h.2 k.2]
  | [], _ :: _, h, _ => h.elim
  | _ :: _, [], h, _ => h.elim
theorem Le.len : ∀ {xs ys : List Int}, Le xs ys → xs.length = ys.length
  | [], [], _ => rfl
  | x :: xs, y :: ys, h => by simp [Le.len h.2]
  | [], _ :: _, h => h.elim
  | _ :: _, [], h => h.elim
theorem Le.app : ∀ {xs ys us vs : List Int}, Le xs ys → Le us vs → Le (xs ++ us) (ys ++ vs)
  | [], [], _, _, _, k => k
  | x :: xs, y :: ys, _, _, h, k => ⟨h.1, Le.app h.2 k⟩
  | [], _ :: _, _, _, h, _ => h.elim
  | _ :: _, [], _, _, h, _ => h.elim
theorem Le.of_get : ∀ {xs ys : List Int}, xs.length = ys.length → (∀ (i : Nat) (x y : Int), xs[i]? = some x → ys[i]? = some y → x ≤ y) → Le xs ys
  | [], [], _, _ => trivial
  | x :: xs, y :: ys, h, k => ⟨k 0 x y rfl rfl, Le.of_get (by simpa using h) fun i a b ha hb => k (i + 1) a b (by simpa using ha) (by simpa using hb)⟩
  | [], _ :: _, h, _ => by simp at h
  | _ :: _, [], h, _ => by simp at h
theorem Le.get : ∀ {xs ys : List Int}, Le xs ys → ∀ {i : Nat} {x y : Int}, xs[i]? = some x → ys[i]? = some y → x ≤ y
  | [], [], _, i, x, y, h, _ => by simp at h
  | x :: xs, y :: ys, h, 0, a, b, ha, hb => by simp at ha hb; subst ha hb; exact h.1
  | x :: xs, y :: ys, h, i + 1, a, b, ha, hb => h.2.get (by simpa using ha) (by simpa using hb)
  | [], _ :: _, h, _, _, _, _, _ => h.elim
  | _ :: _, [], h, _, _, _, _, _ => h.elim
/-- the law's own test -/
def belowB (xs ys : List Int) : Bool := (xs.zip ys).all fun p => decide (p.1 ≤ p.2)
theorem Le.below : ∀ {xs ys : List Int}, Le xs ys → belowB xs ys = true
  | [], [], _ => rfl
  | x :: xs, y :: ys, h => by
    have := Le.below h.2
    unfold belowB at this ⊢
    simp [h.1] at this ⊢
    exact this
  | [], _ :: _, h => h.elim
  | _ :: _, [], h => h.elim
theorem Le.of_below : ∀ {xs ys : List Int}, xs.length = ys.length → belowB xs ys = true → Le xs ys
  | [], [], _, _ => trivial
  | x :: xs, y :: ys, h, k => by
    unfold belowB at k
    simp only [List.zip_cons_cons, List.all_cons, Bool.and_eq_true, decide_eq_true_eq] at k
    exact ⟨k.1, Le.of_below (by simpa using h) k.2⟩
  | [], _ :: _, h, _ => by simp at h
  | _ :: _, [], h, _ => by simp at h

/-! ### places grow -/
theorem div_mono {a b s : Int} (hs : 0 < s) (h : a ≤ b) : a / s ≤ b / s := Int.ediv_le_ediv hs h
theorem step_mono {size : Int} {f g : Str → Int} (hs : 0 < size) (h : ∀ s, f s ≤ g s) {p q : Int} (hp : p ≤ q) (it : Item) : stepP size f p it ≤ stepP size g q it := by
  cases it with
  | text n => simp only [stepP]; omega
  | mark n => exact hp
  | ref s => have := h s; simp only [stepP]; omega
  | brk => exact Int.mul_le_mul_of_nonneg_right (div_mono hs (by omega)) (by omega)
theorem places_mono {size : Int} {f g : Str → Int} (hs : 0 < size) (h : ∀ s, f s ≤ g s) : ∀ (d : Doc) {p q : Int}, p ≤ q → Le (placesL size f p d) (placesL size g q d)
  | [], _, _, _ => trivial
  | it :: r, p, q, hp => ⟨hp, places_mono hs h r (step_mono hs h hp it)⟩
theorem end_mono {size : Int} {f g : Str → Int} (hs : 0 < size) (h : ∀ s, f s ≤ g s) : ∀ (d : Doc) {p q : Int}, p ≤ q → endP size f p d ≤ endP size g q d
  | [], _, _, hp => hp
  | it :: r, p, q, hp => end_mono hs h r (step_mono hs h hp it)
theorem pagesOf_mono {size : Int} (hs : 0 < size) : ∀ (d : Doc) {ps qs : List Int}, Le ps qs → Le (pagesOf size d ps) (pagesOf size d qs)
  | [], ps, qs, _ => by simp only [pagesOf]; exact trivial
  | it :: r, [], [], _ => by simp only [pagesOf]; exact trivial
  | it :: r, p :: ps, q :: qs, h => by
    have ih := pagesOf_mono hs r h.2
    cases it <;> simp only [pagesOf]
    · exact ih
    · exact ⟨by have := div_mono hs h.1; omega, ih⟩
    · exact ih
    · exact ih
  | _ :: _, [], _ :: _, h => h.elim
  | _ :: _, _ :: _, [], h => h.elim
theorem numOf_mono : ∀ {ns : List Str} {ν μ : List Int}, Le ν μ → ∀ s, numOf ns ν s ≤ numOf ns μ s
  | [], ν, μ, _, s => by simp [numOf]
  | n :: ns, [], [], _, s => by simp [numOf]
  | n :: ns, x :: ν, y :: μ, h, s => by
    simp only [numOf]
    split
    · exact h.1
    · exact numOf_mono h.2 s
  | _ :: _, [], _ :: _, h, _ => h.elim
  | _ :: _, _ :: _, [], h, _ => h.elim
theorem lenOf_mono {d : Doc} {ν μ : List Int} {k : Nat} (h : Le ν μ) (hν : NumOk k ν) (s : Str) : lenOf d ν s ≤ lenOf d μ s := dig_mono (numOf_ok _ ν s k hν).1 (numOf_mono h s)
theorem starts_mono {d : Doc} {size : Int} {ν μ : List Int} {k : Nat} (hs : SizeOk size) (h : Le ν μ) (hν : NumOk k ν) : Le (startsT d size ν) (startsT d size μ) :=
  places_mono (by have := hs.1; omega) (lenOf_mono h hν) d (Int.le_refl 0)
theorem pages_mono {d : Doc} {size : Int} {ν μ : List Int} {k : Nat} (hs : SizeOk size) (h : Le ν μ) (hν : NumOk k ν) : Le (pagesT d size ν) (pagesT d size μ) :=
  pagesOf_mono (by have := hs.1; omega) d (starts_mono hs h hν)

/-! ### a text more -/
theorem places_app {size : Int} {len : Str → Int} : ∀ (a b : Doc) (p : Int), placesL size len p (a ++ b) = placesL size len p a ++ placesL size len (endP size len p a) b
  | [], b, p => rfl
  | it :: a, b, p => by simp [placesL, endP, places_app a b]
theorem end_app {size : Int} {len : Str → Int} : ∀ (a b : Doc) (p : Int), endP size len p (a ++ b) = endP size len (endP size len p a) b
  | [], b, p => rfl
  | it :: a, b, p => by simp [endP, end_app a b]
theorem pagesOf_app {size : Int} : ∀ (a b : Doc) (ps qs : List Int), a.length = ps.length → pagesOf size (a ++ b) (ps ++ qs) = pagesOf size a ps ++ pagesOf size b qs
  | [], b, [], qs, _ => by simp [pagesOf]
  | it :: a, b, p :: ps, qs, h => by
    have ih := pagesOf_app (size := size) a b ps qs (by simpa using h)
    cases it <;> simp [pagesOf, ih]
  | [], _, _ :: _, _, h => by simp at h
  | _ :: _, _, [], _, h => by simp at h
/-- pages with given lengths of the names' numbers -/
def pagesL (size : Int) (len : Str → Int) (p : Int) (d : Doc) : List Int := pagesOf size d (placesL size len p d)
theorem pagesT_eq (d : Doc) (size : Int) (ν : List Int) : pagesT d size ν = pagesL size (lenOf d ν) 0 d := rfl
theorem pagesL_app {size : Int} {len : Str → Int} (a b : Doc) (p : Int) : pagesL size len p (a ++ b) = pagesL size len p a ++ pagesL size len (endP size len p a) b := by
  unfold pagesL
  rw [places_app, pagesOf_app _ _ _ _ (placesL_len ..).symm]
theorem pagesL_mono {size : Int} {f g : Str → Int} (hs : 0 < size) (h : ∀ s, f s ≤ g s) (d : Doc) {p q : Int} (hp : p ≤ q) : Le (pagesL size f p d) (pagesL size g q d) := pagesOf_mono hs d (places_mono hs h d hp)
/-- an item without a name -/
def plainIt : Item → Bool
  | .text _ => true
  | .brk => true
  | _ => false
theorem pagesL_plain {size : Int} {len : Str → Int} {it : Item} (h : plainIt it = true) (p : Int) : pagesL size len p [it] = [] := by
  cases it <;> simp [plainIt] at h <;> simp [pagesL, placesL, pagesOf]
theorem names_ins {a b : Doc} {it : Item} (h : it.isMark = false) : names (a ++ [it] ++ b) = names (a ++ b) := by
  simp [names, h]
theorem lenOf_names {d e : Doc} {ν : List Int} (h : names d = names e) : lenOf d ν = lenOf e ν := by funext s; unfold lenOf; rw [h]
theorem step_up {size : Int} {len : Str → Int} (hs : 0 < size) {it : Item} (h : plainIt it = true) (hp : ∀ n, it = .text n → 0 ≤ n) {p : Int} (h0 : 0 ≤ p) : p ≤ stepP size len p it := by
  cases it with
  | text n => have := hp n rfl; simp only [stepP]; omega
  | mark s => simp [plainIt] at h
  | ref s => simp [plainIt] at h
  | brk =>
    simp only [stepP]
    have h2 := Int.lt_mul_ediv_self_add (x := p + size - 1) (k := size) hs
    rw [Int.mul_comm] at h2
    omega
theorem end_nonneg {size : Int} {len : Str → Int} (hs : SizeOk size) (hl : ∀ s, 1 ≤ len s ∧ len s ≤ 13) : ∀ (l : Doc) (p : Int), (∀ n, Item.text n ∈ l → 0 ≤ n ∧ n ≤ 1000000) → 0 ≤ p → 0 ≤ endP size len p l
  | [], p, _, hp => hp
  | it :: l, p, h, hp => by
    have hst := step_ok hs hl (it := it) (p := p) (fun n e => h n (by rw [e]; simp)) hp
    exact end_nonneg hs hl l _ (fun n hn => h n (by simp [hn])) (by omega)
theorem pages_ins {a b : Doc} {it : Item} {size : Int} {ν : List Int} {k : Nat} (hs : SizeOk size) (h : plainIt it = true) (hp : ∀ n, it = .text n → 0 ≤ n) (hν : NumOk k ν) (ht : ∀ n, Item.text n ∈ a → 0 ≤ n ∧ n ≤ 1000000) :
    Le (pagesT (a ++ b) size ν) (pagesT (a ++ [it] ++ b) size ν) := by
  have hm : it.isMark = false := by cases it <;> simp [plainIt] at h <;> rfl
  rw [pagesT_eq, pagesT_eq, lenOf_names (names_ins hm), pagesL_app, pagesL_app, pagesL_app, pagesL_plain h, List.append_nil]
  refine (Le.refl _).app (pagesL_mono (by have := hs.1; omega) (fun s => Int.le_refl _) b ?_)
  rw [end_app]
  exact step_up (by have := hs.1; omega) h hp (end_nonneg hs (lenOf_ok hν) a 0 ht (by omega))

/-! ### pages do not fall along the document -/
theorem places_pw {size : Int} {len : Str → Int} (hs : SizeOk size) (hl : ∀ s, 1 ≤ len s ∧ len s ≤ 13) : ∀ (l : Doc) (p : Int), (∀ n, Item.text n ∈ l → 0 ≤ n ∧ n ≤ 1000000) → 0 ≤ p → (placesL size len p l).Pairwise (· ≤ ·) ∧ ∀ q ∈ placesL size len p l, p ≤ q
  | [], p, _, _ => by simp [placesL]
  | it :: l, p, h, hp => by
    have hst := step_ok hs hl (it := it) (p := p) (fun n e => h n (by rw [e]; simp)) hp
    obtain ⟨i1, i2⟩ := places_pw hs hl l (stepP size len p it) (fun n hn => h n (by simp [hn])) (by omega)
    simp only [placesL]
    refine ⟨List.pairwise_cons.mpr ⟨fun q hq => by have := i2 q hq; omega, i1⟩, fun q hq => ?_⟩
    rcases List.mem_cons.mp hq with rfl | hq
    · exact Int.le_refl _
    · have := i2 q hq; omega
theorem pagesOf_pw {size : Int} (hs : 0 < size) : ∀ (d : Doc) {ps : List Int}, ps.Pairwise (· ≤ ·) → (pagesOf size d ps).Pairwise (· ≤ ·)
  | [], ps, _ => by simp [pagesOf]
  | it :: r, [], _ => by simp [pagesOf]
  | it :: r, p :: ps, h => by
    rw [List.pairwise_cons] at h
    have ih := pagesOf_pw hs r h.2
    cases it <;> simp only [pagesOf]
    · exact ih
    · refine List.pairwise_cons.mpr ⟨fun x hx => ?_, ih⟩
      obtain ⟨q, h1, rfl⟩ := pagesOf_mem _ _ x hx
      have := div_mono hs (h.1 q h1)
      omega
    · exact ih
    · exact ih
theorem pages_pw {d : Doc} {size : Int} {ν : List Int} (hd : WF d) (hν : NumOk (names d).length ν) (hs : SizeOk size) : (pagesT d size ν).Pairwise (· ≤ ·) :=
  pagesOf_pw (by have := hs.1; omega) d (places_pw hs (lenOf_ok hν) d 0 hd.texts (by omega)).1

/-! ### the law's test -/
theorem M_below_of {x y : D} {a b : List Int} (hx : zip2 x y = some (zipD (a.map .int) (b.map .int))) (hn : noOpn x = some x) (hm : noOpn y = some y) (hl : a.length ≤ 1000000) : M__law_below [x, y] = some (.bl (belowB a b)) := by
  apply run_rt
  have hc : compGo (tTup 2 (tCons (tName 2) (tCons (tName 3) tNil))) (tb (b2 gGt (fVarW 2) (fVarW 3))) (fC (.int 1)) [some x, some y, none, none] (zipD (a.map .int) (b.map .int)) = some (((a.zip b).filter fun p => decide (p.2 < p.1)).map fun _ => D.int 1) := by
    rw [zipD_map]
    exact compGo_typed (fun p : Int × Int => D.tup [.int p.1, .int p.2]) (fun p => [some x, some y, some (.int p.1), some (.int p.2)]) (fun p => decide (p.2 < p.1)) (fun _ => D.int 1) _ (fun p _ => by simp) (fun p _ => by simp) (fun p _ _ => by simp)
  have sm : small (zipD (a.map .int) (b.map .int)).length = true := small_le' (by rw [zipD_len]; simp; omega)
  have key : ∀ l : List (Int × Int), gEq (.lst ((l.filter fun p => decide (p.2 < p.1)).map fun _ => D.int 1)) (.lst []) = some (.bl (l.all fun p => decide (p.1 ≤ p.2))) := by
    intro l
    have e : ((l.filter fun p => decide (p.2 < p.1)).map fun _ => D.int 1) = (((l.filter fun p => decide (p.2 < p.1)).map fun _ => (1 : Int))).map .int := by simp
    rw [e]
    have := eq_ints (μ := (l.filter fun p => decide (p.2 < p.1)).map fun _ => (1 : Int)) (ν := [])
    rw [List.map_nil] at this
    rw [this]
    congr 2
    rw [Bool.eq_iff_iff]
    simp [List.filter_eq_nil_iff]
  simp [B__law_below, hx, hn, hm, wipeR, sm, hc, key, belowB]
theorem M_below_num {a b : List Int} (hl : a.length ≤ 1000000) : M__law_below [numD a, numD b] = some (.bl (belowB a b)) := M_below_of (by simp [zip2]) rfl rfl hl
theorem M_below_lst {a b : List Int} (hl : a.length ≤ 1000000) : M__law_below [.lst (a.map .int), .lst (b.map .int)] = some (.bl (belowB a b)) := M_below_of (by simp [zip2]) rfl rfl hl
end PL
/-! ### part PT8 -/
namespace PL
open PySem L2 PLaw

/-! ### documents changed -/
theorem WF.ins {a b : Doc} {it : Item} (h : WF (a ++ b)) (hp : plainIt it = true) (ht : ∀ n, it = .text n → 0 ≤ n ∧ n ≤ 1000000) (hl : (a ++ b).length < 100000) : WF (a ++ [it] ++ b) := by
  have hm : it.isMark = false := by cases it <;> simp [plainIt] at hp <;> rfl
  have hmem : ∀ x, x ∈ a ++ [it] ++ b → x = it ∨ x ∈ a ++ b := fun x hx => by
    simp at hx ⊢; rcases hx with h | h | h <;> simp [h]
  refine ⟨by rw [names_ins hm]; exact h.nd, fun s hs => ?_, fun n hn => ?_, fun x hx => ?_, by simp at hl ⊢; omega⟩
  · rw [names_ins hm]
    rcases hmem _ hs with e | e
    · rw [← e] at hp; simp [plainIt] at hp
    · exact h.refs s e
  · rcases hmem _ hn with e | e
    · exact ht n e.symm
    · exact h.texts n e
  · rcases hmem _ hx with e | e
    · subst e
      cases x <;> simp [plainIt] at hp
      · exact s_break
      · exact s_break
    · exact h.sok x e
theorem gSl_doc_lo {d : Doc} {k : Int} (h0 : 0 ≤ k) (h1 : k ≤ d.length) : gSl (docD d) none (some k) = some (docD (d.take k.toNat)) := by
  simp only [docD, gSl, cut_lo (xs := d.map itemD) h0 (by simpa using h1), List.map_take]
theorem gSl_doc_hi {d : Doc} {k : Int} (h0 : 0 ≤ k) (h1 : k ≤ d.length) : gSl (docD d) (some k) none = some (docD (d.drop k.toNat)) := by
  simp only [docD, gSl, cut_hi (xs := d.map itemD) h0 (by simpa using h1), List.map_drop]
theorem gAdd_doc {a b : Doc} (h : a.length + b.length ≤ 16777216) : gAdd (docD a) (docD b) = some (docD (a ++ b)) := by
  simp only [docD, gAdd, List.length_map, small_le' h, if_true, List.map_append]
theorem gAdd_num {a b : List Int} (h : a.length + b.length ≤ 16777216) : gAdd (numD a) (numD b) = some (numD (a ++ b)) := by
  simp only [numD, gAdd, List.length_map, small_le' h, if_true, List.map_append]
theorem doc_one (it : Item) : D.tup [itemD it] = docD [it] := rfl
theorem take_drop {α : Type} (l : List α) (n : Nat) : l.take n ++ l.drop n = l := List.take_append_drop n l
/-- ints zipped and joined to a tuple -/
theorem zip_comp {f : Int → Int → Int} {i j : Nat} {e : Rho → Option D} {ρ : Rho} (hi : ∀ x y : Int, tTup 2 (tCons (tName i) (tCons (tName j) tNil)) (.tup [.int x, .int y]) ρ = some ((ρ.set i (some (.int x))).set j (some (.int y))))
    (he : ∀ x y : Int, e ((ρ.set i (some (.int x))).set j (some (.int y))) = some (.int (f x y))) : ∀ (xs ys : List Int),
    compGo (tTup 2 (tCons (tName i) (tCons (tName j) tNil))) cYes e ρ (zipD (xs.map .int) (ys.map .int)) = some ((List.zipWith f xs ys).map .int)
  | [], ys => by simp [zipD, compGo]
  | _ :: _, [] => by simp [zipD, compGo]
  | x :: xs, y :: ys => by
    have ih := zip_comp hi he xs ys
    simp only [List.map_cons, zipD, compGo, hi, Option.bind_some, cYes, if_true, he, ih, Option.map_some, List.zipWith_cons_cons]
def mn (x y : Int) : Int := if y < x then y else x
def mx (x y : Int) : Int := if y > x then y else x
theorem zw_len {f : Int → Int → Int} {xs ys : List Int} (h : xs.length = ys.length) : (List.zipWith f xs ys).length = xs.length := by simp [h]
theorem mn_mx_le : ∀ (xs ys : List Int), Le (List.zipWith mn xs ys) (List.zipWith mx xs ys)
  | [], ys => by simp only [List.zipWith_nil_left]; exact trivial
  | _ :: _, [] => by simp only [List.zipWith_nil_right]; exact trivial
  | x :: xs, y :: ys => ⟨by unfold mn mx; split <;> split <;> omega, mn_mx_le xs ys⟩
theorem zw_mem {f : Int → Int → Int} (hf : ∀ x y, f x y = x ∨ f x y = y) : ∀ (xs ys : List Int) (z : Int), z ∈ List.zipWith f xs ys → z ∈ xs ∨ z ∈ ys
  | [], ys, z, h => by simp at h
  | _ :: _, [], z, h => by simp at h
  | x :: xs, y :: ys, z, h => by
    simp only [List.zipWith_cons_cons, List.mem_cons] at h
    rcases h with rfl | h
    · rcases hf x y with e | e <;> rw [e] <;> simp
    · rcases zw_mem hf xs ys z h with h | h <;> simp [h]
theorem NumOk.zw {f : Int → Int → Int} (hf : ∀ x y, f x y = x ∨ f x y = y) {k : Nat} {xs ys : List Int} (hx : NumOk k xs) (hy : NumOk k ys) : NumOk k (List.zipWith f xs ys) :=
  ⟨by rw [zw_len (by rw [hx.1, hy.1]), hx.1], fun n hn => (zw_mem hf xs ys n hn).elim (hx.2 n) (hy.2 n)⟩
theorem mn_or (x y : Int) : mn x y = x ∨ mn x y = y := by unfold mn; split <;> simp
theorem mx_or (x y : Int) : mx x y = x ∨ mx x y = y := by unfold mx; split <;> simp
theorem NumOk.of1 {k : Nat} {ν : List Int} (h1 : ν.length = k) (h2 : ∀ n ∈ ν, 1 ≤ n ∧ n ≤ 1000000000) : NumOk k ν := ⟨h1, fun n hn => by have := h2 n hn; omega⟩
/-- a slice of the digits -/
theorem dig_drop {ds : List Int} {k : Int} (h0 : 0 ≤ k) (h1 : k ≤ ds.length) : gSl (.lst (ds.map .int)) (some k) none = some (.opn ((ds.drop k.toNat).map .int)) := by
  simp only [gSl, cut_hi (xs := ds.map D.int) h0 (by simpa using h1), List.map_drop]
/-- a start from the digits behind a place -/
theorem start_of {ds : List Int} {d : Doc} {size most : Int} {j : Int} (hd : DocOk d size most) (h0 : ∀ x ∈ ds, 0 ≤ x ∧ x < 27720) (hj : 0 ≤ j) (hl : j + most ≤ ds.length) : ∃ ν, M__law_start [.lst ((ds.drop j.toNat).map .int), docD d] = some (numD ν) ∧ ν.length = (names d).length ∧ ∀ n ∈ ν, 1 ≤ n ∧ n ≤ 1000000000 := by
  have hdl := hd.len
  have hnm := hd.nm
  exact M_start (ds := ds.drop j.toNat) (d := d) (fun x hx => by have := h0 x (List.mem_of_mem_drop hx); omega) (by rw [List.length_drop]; omega) (by omega)
end PL
/-! ### part PT22 -/
namespace PL
open PySem L2 PLaw

/-! ### values of any kind, at most n deep -/
mutual
def okV : Nat → D → Bool
  | _, .non => true
  | _, .bl _ => true
  | _, .int _ => true
  | _, .str x => strOk x && decide (x.length ≤ 1000)
  | n + 1, .tup xs => okVL n xs
  | n + 1, .lst xs => okVL n xs
  | _, _ => false
def okVL : Nat → List D → Bool
  | _, [] => true
  | n, x :: xs => okV n x && okVL n xs
end
theorem okVL_iff {n : Nat} : ∀ {xs : List D}, okVL n xs = true ↔ ∀ x ∈ xs, okV n x = true
  | [] => by simp [okVL]
  | x :: xs => by simp [okVL, okVL_iff (xs := xs)]
theorem vI {n : Nat} {i : Int} : okV n (.int i) = true := by cases n <;> simp only [okV]
theorem vB {n : Nat} {i : Bool} : okV n (.bl i) = true := by cases n <;> simp only [okV]
theorem vN {n : Nat} : okV n .non = true := by cases n <;> simp only [okV]
theorem vS {n : Nat} {s : Str} : okV n (.str s) = true ↔ strOk s = true ∧ s.length ≤ 1000 := by cases n <;> simp [okV]
theorem vT {n : Nat} {xs : List D} : okV (n + 1) (.tup xs) = true ↔ ∀ x ∈ xs, okV n x = true := by rw [← okVL_iff]; simp only [okV]
theorem vL {n : Nat} {xs : List D} : okV (n + 1) (.lst xs) = true ↔ ∀ x ∈ xs, okV n x = true := by rw [← okVL_iff]; simp only [okV]
mutual
theorem okV_D : ∀ (n : Nat) (d : D), okV n d = true → okD n d = true := by
  intro n d h
  cases d <;> cases n <;> simp only [okV, Bool.false_eq_true] at h <;> simp only [okD]
  all_goals first
    | exact okVL_D _ _ h
    | (rw [Bool.and_eq_true] at h; exact h.1)
theorem okVL_D : ∀ (n : Nat) (ds : List D), okVL n ds = true → okL n ds = true
  | n, [], _ => by simp [okL]
  | n, x :: xs, h => by
    simp only [okVL, okL, Bool.and_eq_true] at h ⊢
    exact ⟨okV_D n x h.1, okVL_D n xs h.2⟩
end
mutual
theorem okV_up : ∀ (n : Nat) (d : D), okV n d = true → okV (n + 1) d = true := by
  intro n d h
  cases d <;> cases n <;> simp only [okV, Bool.false_eq_true] at h ⊢
  all_goals first
    | exact okVL_up _ _ h
    | exact h
theorem okVL_up : ∀ (n : Nat) (ds : List D), okVL n ds = true → okVL (n + 1) ds = true
  | n, [], _ => by simp [okVL]
  | n, x :: xs, h => by
    simp only [okVL, Bool.and_eq_true] at h ⊢
    exact ⟨okV_up n x h.1, okVL_up n xs h.2⟩
end
theorem okV_le {n m : Nat} {d : D} (h : okV n d = true) (hm : n ≤ m) : okV m d = true := by
  induction hm with
  | refl => exact h
  | step _ ih => exact okV_up _ _ ih

/-! ### types -/
section
variable {b : Bool} {i : Int} {z : Str} {xs : List D}
@[simp] theorem it_i1 : isT "int" .non = some (.bl false) := (rfl)
@[simp] theorem it_i2 : isT "int" (.bl b) = some (.bl true) := (rfl)
@[simp] theorem it_i3 : isT "int" (.int i) = some (.bl true) := (rfl)
@[simp] theorem it_i4 : isT "int" (.str z) = some (.bl false) := (rfl)
@[simp] theorem it_i5 : isT "int" (.tup xs) = some (.bl false) := (rfl)
@[simp] theorem it_i6 : isT "int" (.lst xs) = some (.bl false) := (rfl)
@[simp] theorem it_b1 : isT "bool" .non = some (.bl false) := (rfl)
@[simp] theorem it_b3 : isT "bool" (.int i) = some (.bl false) := (rfl)
@[simp] theorem it_b4 : isT "bool" (.str z) = some (.bl false) := (rfl)
@[simp] theorem it_b5 : isT "bool" (.tup xs) = some (.bl false) := (rfl)
@[simp] theorem it_b6 : isT "bool" (.lst xs) = some (.bl false) := (rfl)
@[simp] theorem it_s1 : isT "str" .non = some (.bl false) := (rfl)
@[simp] theorem it_s2 : isT "str" (.bl b) = some (.bl false) := (rfl)
@[simp] theorem it_s3 : isT "str" (.int i) = some (.bl false) := (rfl)
@[simp] theorem it_s4 : isT "str" (.str z) = some (.bl true) := (rfl)
@[simp] theorem it_s5 : isT "str" (.tup xs) = some (.bl false) := (rfl)
@[simp] theorem it_s6 : isT "str" (.lst xs) = some (.bl false) := (rfl)
@[simp] theorem it_t1 : isT "tuple" .non = some (.bl false) := (rfl)
@[simp] theorem it_t2 : isT "tuple" (.bl b) = some (.bl false) := (rfl)
@[simp] theorem it_t3 : isT "tuple" (.int i) = some (.bl false) := (rfl)
@[simp] theorem it_t4 : isT "tuple" (.str z) = some (.bl false) := (rfl)
@[simp] theorem it_t6 : isT "tuple" (.lst xs) = some (.bl false) := (rfl)
@[simp] theorem it_l1 : isT "list" .non = some (.bl false) := (rfl)
@[simp] theorem it_l2 : isT "list" (.bl b) = some (.bl false) := (rfl)
@[simp] theorem it_l3 : isT "list" (.int i) = some (.bl false) := (rfl)
@[simp] theorem it_l4 : isT "list" (.str z) = some (.bl false) := (rfl)
@[simp] theorem it_l5 : isT "list" (.tup xs) = some (.bl false) := (rfl)
@[simp] theorem it_21 : isT2 "list" "tuple" .non = some (.bl false) := (rfl)
@[simp] theorem it_22 : isT2 "list" "tuple" (.bl b) = some (.bl false) := (rfl)
@[simp] theorem it_23 : isT2 "list" "tuple" (.int i) = some (.bl false) := (rfl)
@[simp] theorem it_24 : isT2 "list" "tuple" (.str z) = some (.bl false) := (rfl)
@[simp] theorem it_25 : isT2 "list" "tuple" (.tup xs) = some (.bl true) := (rfl)
@[simp] theorem it_26 : isT2 "list" "tuple" (.lst xs) = some (.bl true) := (rfl)
@[simp] theorem it_rev1 : gRev (.tup xs) = some (.tup xs.reverse) := (rfl)
@[simp] theorem it_rev2 : gRev (.lst xs) = some (.opn xs.reverse) := (rfl)
@[simp] theorem it_l7 : gList (.tup xs) = some (.opn xs) := (rfl)
@[simp] theorem it_l8 : gList (.lst xs) = some (.opn xs) := (rfl)
@[simp] theorem it_t7 : gTuple (.tup xs) = some (.tup xs) := (rfl)
@[simp] theorem it_t8 : gTuple (.lst xs) = some (.tup xs) := (rfl)
@[simp] theorem it_bo : gBool (.int i) = some (.bl (i != 0)) := (rfl)
end
theorem emp_len {l : List D} : eqL l [] = decide (l = []) := by cases l <;> simp [eqL]
theorem eq_nil {l : List D} (h : okL 11 l = true) : gEq (.lst l) (.lst []) = some (.bl (decide (l = []))) := by
  rw [gEq_eq (by rw [show DEEP = 11 + 1 by decide]; simpa only [okD] using h) (by rfl)]
  simp only [eqD, emp_len]
theorem ne_nil' {l : List D} (h : okL 11 l = true) : gNe (.lst l) (.lst []) = some (.bl !(decide (l = []))) := by
  rw [gNe_eq (by rw [show DEEP = 11 + 1 by decide]; simpa only [okD] using h) (by rfl)]
  simp only [eqD, emp_len]

/-! ### numbers -/
def isI (lo hi : Int) : D → Bool
  | .int i => decide (lo ≤ i) && decide (i ≤ hi)
  | _ => false
theorem noV {n : Nat} {v : D} (h : okV n v = true) : (∀ xs, v ≠ .opn xs) ∧ (∀ xs, v ≠ .scr xs) ∧ ∀ xs, v ≠ .dic xs := by
  refine ⟨fun xs e => ?_, fun xs e => ?_, fun xs e => ?_⟩ <;> subst e <;> cases n <;> simp [okV] at h
theorem M_isint {v : D} {lo hi : Int} {n : Nat} (h : okV n v = true) : M_is_integer [v, .int lo, .int hi] = some (.bl (isI lo hi v)) := by
  have hn := noV h
  apply run_rt
  cases v with
  | opn xs => exact absurd rfl (hn.1 xs)
  | scr xs => exact absurd rfl (hn.2.1 xs)
  | dic xs => exact absurd rfl (hn.2.2 xs)
  | int i => by_cases h1 : lo ≤ i <;> simp [B_is_integer, isI, h1]
  | _ => simp [B_is_integer, isI]
theorem M_lisint {v : D} {lo hi : Int} {n : Nat} (h : okV n v = true) : M__law_is_integer [v, .int lo, .int hi] = some (.bl (isI lo hi v)) := M_isint h

/-! ### names -/
def LET : List Nat := ("abcdefghijklmnopqrstuvwxyz" : Str).cps.toList
def isNm : D → Bool
  | .str z => decide (1 ≤ z.length) && decide (z.length ≤ 8) && z.cps.toList.all fun c => decide (c ∈ LET)
  | _ => false
theorem in_let {c : Nat} : gIn (.str ⟨#[c]⟩) (.str "abcdefghijklmnopqrstuvwxyz") = some (.bl (decide (c ∈ LET))) := (rfl)
theorem nin_let {c : Nat} : gNotIn (.str ⟨#[c]⟩) (.str "abcdefghijklmnopqrstuvwxyz") = some (.bl !(decide (c ∈ LET))) := (rfl)
theorem len_str {z : Str} (h : z.length ≤ 1000) : gLen (.str z) = some (.int (z.length : Nat)) := by
  have : small z.length = true := small_le' (by omega)
  simp only [gLen, this, if_true]
theorem chars_len {z : Str} : (chars z).length = z.length := by simp [chars, Str.length]
theorem all_chars {v : D} {z : Str} : compGo (tName 1) cYes (b2 gIn (fVarW 1) (fC (.str "abcdefghijklmnopqrstuvwxyz"))) [some v, none] (chars z) = some ((z.cps.toList.map fun c => decide (c ∈ LET)).map .bl) := by
  unfold chars
  rw [compGo_typed (fun c : Nat => D.str ⟨#[c]⟩) (fun c => [some v, some (.str ⟨#[c]⟩)]) (fun _ => true) (fun c => .bl (decide (c ∈ LET))) z.cps.toList (fun _ _ => rfl) (fun _ _ => rfl) (fun c _ _ => by simp [in_let])]
  rw [show z.cps.toList.filter (fun _ => true) = z.cps.toList by simp, List.map_map]
  rfl
theorem M_isname {v : D} {n : Nat} (h : okV n v = true) : M_is_name [v] = some (.bl (isNm v)) := by
  have hn := noV h
  apply run_rt
  cases v with
  | opn xs => exact absurd rfl (hn.1 xs)
  | scr xs => exact absurd rfl (hn.2.1 xs)
  | dic xs => exact absurd rfl (hn.2.2 xs)
  | str z =>
    have h1 := (vS.mp h).2
    have hsm : small (chars z).length = true := small_le' (by rw [chars_len]; omega)
    have hc := all_chars (v := .str z) (z := z)
    by_cases h2 : (1 : Int) ≤ (z.length : Nat)
    · by_cases h3 : ((z.length : Nat) : Int) ≤ 8
      · have e1 : 1 ≤ z.length := by omega
        have e2 : z.length ≤ 8 := by omega
        simp [B_is_name, isNm, len_str h1, h2, h3, e1, e2, hsm, wipeR, hc, gAll, boolsOf_map, -List.map_map, asSeq]
        try simp [List.all_map, Function.comp_def]
      · have e2 : ¬ z.length ≤ 8 := by omega
        simp [B_is_name, isNm, len_str h1, h2, h3, e2]
    · have e1 : ¬ 1 ≤ z.length := by omega
      simp [B_is_name, isNm, len_str h1, h2, e1]
  | _ => simp [B_is_name, isNm]

/-! ### items -/
theorem lenT {xs : List D} : gLen (.tup xs) = some (.int (xs.length : Nat)) := (rfl)
def isIt : D → Bool
  | .tup [.str a] => decide (a = "break")
  | .tup [.str a, y] => if a = "text" then isI 0 1000000 y else (decide (a = "mark") || decide (a = "ref")) && isNm y
  | _ => false
theorem eq_strs {a b : Str} (h1 : strOk a = true) (h2 : strOk b = true) : gEq (.str a) (.str b) = some (.bl (decide (a = b))) := by
  rw [gEq_eq (by rw [okS]; exact h1) (by rw [okS]; exact h2), eqD_str]
theorem in_mr {a : Str} (h : strOk a = true) : gIn (.str a) (.tup [.str "mark", .str "ref"]) = some (.bl (decide (a = "mark") || decide (a = "ref"))) := by
  have h1 : okD DEEP (.str a) = true := by rw [okS]; exact h
  have h2 : okD DEEP (.tup [.str "mark", .str "ref"]) = true := by decide +kernel
  have : inD (.str a) (.tup [.str "mark", .str "ref"]) = some (anyD (.str a) [.str "mark", .str "ref"]) := by
    simp only [inD, h1, h2, Bool.and_self, if_true]
  simp only [gIn, this, Option.map_some, anyD, eqD_str, Bool.or_false]
  have c1 : ∀ x y : Str, decide (x = y) = decide (y = x) := fun x y => by rw [Bool.eq_iff_iff]; simp [eq_comm]
  rw [c1 "mark" a, c1 "ref" a]
theorem nin_mr {a : Str} (h : strOk a = true) : gNotIn (.str a) (.tup [.str "mark", .str "ref"]) = some (.bl !(decide (a = "mark") || decide (a = "ref"))) := by
  have := in_mr h
  simp only [gIn, gNotIn, Option.map_eq_some_iff] at this ⊢
  obtain ⟨b, h1, h2⟩ := this
  exact ⟨b, h1, by cases h2; rfl⟩
theorem M_isitem {v : D} {n : Nat} (h : okV n v = true) : M_is_item [v] = some (.bl (isIt v)) := by
  have hn := noV h
  apply run_rt
  cases v with
  | opn xs => exact absurd rfl (hn.1 xs)
  | scr xs => exact absurd rfl (hn.2.1 xs)
  | dic xs => exact absurd rfl (hn.2.2 xs)
  | tup xs =>
    cases n with
    | zero => simp [okV] at h
    | succ n =>
      rw [vT] at h
      match xs, h with
      | [], _ => simp [B_is_item, isIt, gLen]
      | [x], h =>
        have hx := h x (by simp)
        have hnx := noV hx
        have i0 : gIdx (.tup [x]) (.int 0) = some x := rfl
        cases x with
        | opn xs => exact absurd rfl (hnx.1 xs)
        | scr xs => exact absurd rfl (hnx.2.1 xs)
        | dic xs => exact absurd rfl (hnx.2.2 xs)
        | str a => simp [B_is_item, isIt, lenT, i0, eq_strs (vS.mp hx).1 s_break]
        | _ => simp [B_is_item, isIt, lenT, i0]
      | [x, y], h =>
        have hx := h x (by simp)
        have hy := h y (by simp)
        have hnx := noV hx
        have i0 : gIdx (.tup [x, y]) (.int 0) = some x := rfl
        have i1 : gIdx (.tup [x, y]) (.int 1) = some y := rfl
        have e1 := M_isint (lo := 0) (hi := 1000000) hy
        have e2 := M_isname hy
        cases x with
        | opn xs => exact absurd rfl (hnx.1 xs)
        | scr xs => exact absurd rfl (hnx.2.1 xs)
        | dic xs => exact absurd rfl (hnx.2.2 xs)
        | str a =>
          have hs := (vS.mp hx).1
          by_cases ht : a = "text"
          · subst ht
            have j0 : gIdx (.tup [.str "text", y]) (.int 0) = some (.str "text") := rfl
            have j1 : gIdx (.tup [.str "text", y]) (.int 1) = some y := rfl
            simp [B_is_item, isIt, lenT, j0, j1, eq_strs s_text s_text, e1]
          · by_cases hm : (decide (a = "mark") || decide (a = "ref")) = true
            · simp [B_is_item, isIt, lenT, i0, i1, eq_strs hs s_text, ht, e2, in_mr hs, hm]
            · have hm : (decide (a = "mark") || decide (a = "ref")) = false := by simpa using hm
              simp [B_is_item, isIt, lenT, i0, i1, eq_strs hs s_text, ht, e2, in_mr hs, hm]
        | _ => simp [B_is_item, isIt, lenT, i0]
      | x :: y :: z :: r, h =>
        have : ¬ ((r.length : Int) + 1 + 1 + 1 ≤ 2) := by omega
        have e0 : (1 : Int) ≤ (r.length : Int) + 1 + 1 + 1 := by omega
        simp [B_is_item, isIt, lenT, this, e0]
  | _ => simp [B_is_item, isIt]
theorem bad_chars {v : D} {z : Str} : compGo (tName 1) (tb (b2 gNotIn (fVarW 1) (fC (.str "abcdefghijklmnopqrstuvwxyz")))) (fVar 1) [some v, none] (chars z) = some ((z.cps.toList.filter fun c => !decide (c ∈ LET)).map fun c => .str ⟨#[c]⟩) := by
  unfold chars
  rw [compGo_typed (fun c : Nat => D.str ⟨#[c]⟩) (fun c => [some v, some (.str ⟨#[c]⟩)]) (fun c => !decide (c ∈ LET)) (fun c => .str ⟨#[c]⟩) z.cps.toList (fun _ _ => rfl) (fun c _ => by simp [nin_let]) (fun c _ _ => by simp)]
theorem ok_chars {z : Str} (h : strOk z = true) {p : Nat → Bool} : okL 11 ((z.cps.toList.filter p).map fun c => D.str ⟨#[c]⟩) = true := by
  rw [okL_iff]
  intro x hx
  obtain ⟨c, hc, rfl⟩ := List.mem_map.mp hx
  rw [okS]
  unfold strOk at h ⊢
  have hc' := (List.mem_filter.mp hc).1
  rw [Array.all_eq_true] at h
  obtain ⟨i, hi, e⟩ := List.getElem_of_mem hc'
  have := h i (by simpa using hi)
  simp at e
  simp [← e]
  simpa using this
theorem M_lisitem {v : D} {n : Nat} (h : okV n v = true) : M__law_is_item [v] = some (.bl (isIt v)) := by
  have hn := noV h
  apply run_rt
  cases v with
  | opn xs => exact absurd rfl (hn.1 xs)
  | scr xs => exact absurd rfl (hn.2.1 xs)
  | dic xs => exact absurd rfl (hn.2.2 xs)
  | tup xs =>
    cases n with
    | zero => simp [okV] at h
    | succ n =>
      rw [vT] at h
      have n12 : ∀ k : Int, gNotIn (.int k) (.tup [.int 1, .int 2]) = some (.bl !(decide (k = 1) || decide (k = 2))) := fun k => by
        have h1 : okD DEEP (.int k) = true := okI
        have h2 : okD DEEP (.tup [.int 1, .int 2]) = true := by decide +kernel
        have : inD (.int k) (.tup [.int 1, .int 2]) = some (anyD (.int k) [.int 1, .int 2]) := by
          simp only [inD, h1, h2, Bool.and_self, if_true]
        have c1 : ∀ x y : Int, decide (x = y) = decide (y = x) := fun x y => by rw [Bool.eq_iff_iff]; simp [eq_comm]
        simp only [gNotIn, this, Option.map_some, anyD, eqD_int, Bool.or_false]
        rw [c1 1 k, c1 2 k]
      match xs, h with
      | [], _ => simp [B__law_is_item, isIt, lenT, n12]
      | [x], h =>
        have hx := h x (by simp)
        have hnx := noV hx
        have i0 : gIdx (.tup [x]) (.int 0) = some x := rfl
        cases x with
        | opn xs => exact absurd rfl (hnx.1 xs)
        | scr xs => exact absurd rfl (hnx.2.1 xs)
        | dic xs => exact absurd rfl (hnx.2.2 xs)
        | str a => simp [B__law_is_item, isIt, lenT, n12, i0, eq_strs (vS.mp hx).1 s_break]
        | _ => simp [B__law_is_item, isIt, lenT, n12, i0]
      | [x, y], h =>
        have hx := h x (by simp)
        have hy := h y (by simp)
        have hnx := noV hx
        have hny := noV hy
        have i0 : gIdx (.tup [x, y]) (.int 0) = some x := rfl
        have i1 : gIdx (.tup [x, y]) (.int 1) = some y := rfl
        have e1 := M_lisint (lo := 0) (hi := 1000000) hy
        cases x with
        | opn xs => exact absurd rfl (hnx.1 xs)
        | scr xs => exact absurd rfl (hnx.2.1 xs)
        | dic xs => exact absurd rfl (hnx.2.2 xs)
        | str a =>
          have hs := (vS.mp hx).1
          by_cases ht : a = "text"
          · subst ht
            have j0 : gIdx (.tup [.str "text", y]) (.int 0) = some (.str "text") := rfl
            have j1 : gIdx (.tup [.str "text", y]) (.int 1) = some y := rfl
            simp [B__law_is_item, isIt, lenT, n12, j0, j1, eq_strs s_text s_text, e1]
          · by_cases hm : (decide (a = "mark") || decide (a = "ref")) = true
            · cases y with
              | opn xs => exact absurd rfl (hny.1 xs)
              | scr xs => exact absurd rfl (hny.2.1 xs)
              | dic xs => exact absurd rfl (hny.2.2 xs)
              | str z =>
                obtain ⟨z1, z2⟩ := vS.mp hy
                have hsm : small (chars z).length = true := small_le' (by rw [chars_len]; omega)
                have hb := bad_chars (v := .tup [.str a, .str z]) (z := z)
                have hq := eq_nil (ok_chars (p := fun c => !decide (c ∈ LET)) z1)
                have hl := len_str z2
                by_cases h2 : (1 : Int) ≤ (z.length : Nat)
                · by_cases h3 : ((z.length : Nat) : Int) ≤ 8
                  · have e1 : 1 ≤ z.length := by omega
                    have e2 : z.length ≤ 8 := by omega
                    have hall : decide ((z.cps.toList.filter fun c => !decide (c ∈ LET)).map (fun c => D.str ⟨#[c]⟩) = []) = z.cps.toList.all fun c => decide (c ∈ LET) := by
                      rw [Bool.eq_iff_iff]
                      simp only [decide_eq_true_eq, List.map_eq_nil_iff, List.filter_eq_nil_iff, List.all_eq_true, Bool.not_eq_true', decide_eq_false_iff_not, Decidable.not_not]
                    have e3 : isIt (.tup [.str a, .str z]) = z.cps.toList.all fun c => decide (c ∈ LET) := by
                      simp [isIt, ht, hm, isNm, e1, e2]
                    rw [e3, ← hall]
                    simp only [B__law_is_item]
                    simp [lenT, n12, i0, i1, eq_strs hs s_text, ht, nin_mr hs, hm, hl, h2, h3, hsm, wipeR, hb, hq, asSeq, -List.map_eq_nil_iff, -List.filter_eq_nil_iff]
                  · have e2 : ¬ z.length ≤ 8 := by omega
                    simp [B__law_is_item, isIt, lenT, n12, i0, i1, eq_strs hs s_text, ht, nin_mr hs, hm, hl, h2, h3, isNm, e2]
                · have e1 : ¬ 1 ≤ z.length := by omega
                  simp [B__law_is_item, isIt, lenT, n12, i0, i1, eq_strs hs s_text, ht, nin_mr hs, hm, hl, h2, isNm, e1]
              | _ => simp [B__law_is_item, isIt, lenT, n12, i0, i1, eq_strs hs s_text, ht, nin_mr hs, hm, isNm]
            · have hm : (decide (a = "mark") || decide (a = "ref")) = false := by simpa using hm
              simp [B__law_is_item, isIt, lenT, n12, i0, i1, eq_strs hs s_text, ht, nin_mr hs, hm]
        | _ => simp [B__law_is_item, isIt, lenT, n12, i0]
      | x :: y :: z :: r, h =>
        have t1 : ¬ ((r.length : Int) + 1 + 1 + 1 = 1) := by omega
        have t2 : ¬ ((r.length : Int) + 1 + 1 + 1 = 2) := by omega
        simp [B__law_is_item, isIt, lenT, n12, t1, t2]
  | _ => simp [B__law_is_item, isIt]
end PL
/-! ### part PT23 -/
namespace PL
open PySem L2 PLaw

/-! ### documents: the program's test and the law's -/
theorem it_of {n : Nat} {x : D} (hv : okV n x = true) (h : isIt x = true) : ∃ it : Item, x = itemD it ∧ strOk it.name = true := by
  match x, h with
  | .tup [.str a], h =>
    have : a = "break" := by simpa [isIt] using h
    subst this
    exact ⟨.brk, rfl, s_break⟩
  | .tup [.str a, y], h =>
    cases n with
    | zero => simp [okV] at hv
    | succ n =>
    rw [vT] at hv
    have hy := hv y (by simp)
    by_cases ht : a = "text"
    · subst ht
      simp only [isIt, if_true] at h
      cases y with
      | int i => exact ⟨.text i, rfl, s_break⟩
      | _ => simp [isI] at h
    · simp only [isIt, ht, if_false, Bool.and_eq_true, Bool.or_eq_true, decide_eq_true_eq] at h
      obtain ⟨h1, h2⟩ := h
      cases y with
      | str z =>
        have hz := (vS.mp hy).1
        rcases h1 with rfl | rfl
        · exact ⟨.mark z, rfl, hz⟩
        · exact ⟨.ref z, rfl, hz⟩
      | _ => simp [isNm] at h2
theorem items_of {n : Nat} : ∀ {xs : List D}, (∀ x ∈ xs, okV n x = true) → (∀ x ∈ xs, isIt x = true) → ∃ d : Doc, xs = d.map itemD ∧ ∀ it ∈ d, strOk it.name = true
  | [], _, _ => ⟨[], rfl, by simp⟩
  | x :: xs, hv, h => by
    obtain ⟨it, rfl, h1⟩ := it_of (hv x (by simp)) (h x (by simp))
    obtain ⟨d, rfl, h2⟩ := items_of (xs := xs) (fun y hy => hv y (by simp [hy])) (fun y hy => h y (by simp [hy]))
    exact ⟨it :: d, rfl, fun i hi => by rcases List.mem_cons.mp hi with rfl | hi; exact h1; exact h2 i hi⟩
theorem no_V {n : Nat} {x : D} (h : okV n x = true) : noOpn x = some x ∧ frzD x = x := by
  have hn := noV h
  cases x with
  | opn xs => exact absurd rfl (hn.1 xs)
  | _ => exact ⟨rfl, rfl⟩
theorem any_strs {s : Str} : ∀ ns : List Str, anyD (.str s) (ns.map .str) = decide (s ∈ ns)
  | [] => rfl
  | x :: ns => by
    simp only [List.map_cons, anyD, eqD_str, any_strs ns, List.mem_cons]
    rw [Bool.eq_iff_iff]
    simp only [Bool.or_eq_true, decide_eq_true_eq]
    constructor
    · rintro (h | h)
      · exact .inl h.symm
      · exact .inr h
    · rintro (h | h)
      · exact .inl h.symm
      · exact .inr h
theorem in_strs {s : Str} {ns : List Str} (hs : strOk s = true) (hn : ∀ x ∈ ns, strOk x = true) : gIn (.str s) (.lst (ns.map .str)) = some (.bl (decide (s ∈ ns))) := by
  have h1 : okD DEEP (.str s) = true := by rw [okS]; exact hs
  have h2 : okD DEEP (.lst (ns.map .str)) = true := by
    rw [show DEEP = (DEEP - 1) + 1 by decide, okLs]
    intro x hx
    obtain ⟨y, hy, rfl⟩ := List.mem_map.mp hx
    rw [okS]; exact hn y hy
  have : inD (.str s) (.lst (ns.map .str)) = some (anyD (.str s) (ns.map .str)) := by
    simp only [inD, h1, h2, Bool.and_self, if_true]
  simp only [gIn, this, Option.map_some, any_strs]
theorem nin_strs {s : Str} {ns : List Str} (hs : strOk s = true) (hn : ∀ x ∈ ns, strOk x = true) : gNotIn (.str s) (.lst (ns.map .str)) = some (.bl !(decide (s ∈ ns))) := by
  have := in_strs hs hn
  simp only [gIn, gNotIn, Option.map_eq_some_iff] at this ⊢
  obtain ⟨b, h1, h2⟩ := this
  exact ⟨b, h1, by cases h2; rfl⟩
theorem namesOk {d : Doc} (h : ∀ it ∈ d, strOk it.name = true) : ∀ s ∈ names d, strOk s = true := fun s hs => by
  unfold names at hs
  obtain ⟨it, hi, rfl⟩ := List.mem_map.mp hs
  exact h it (List.mem_filter.mp hi).1
theorem adj_nodup : ∀ l : List Str, l.Pairwise (fun a b => leS a b = true) → ((l.zip (l.drop 1)).filter (fun p => decide (p.1 = p.2)) = [] ↔ l.Nodup)
  | [], _ => by simp
  | [x], _ => by simp
  | x :: y :: r, h => by
    have ih := adj_nodup (y :: r) (List.pairwise_cons.mp h).2
    have hx := (List.pairwise_cons.mp h).1
    have hy := (List.pairwise_cons.mp (List.pairwise_cons.mp h).2).1
    simp only [List.drop_succ_cons, List.drop_zero, List.zip_cons_cons] at ih ⊢
    rw [List.nodup_cons, ← ih]
    by_cases e : x = y
    · subst e
      simp
    · simp only [List.filter_cons, e, decide_false, Bool.false_eq_true, if_false]
      constructor
      · intro h1
        refine ⟨fun hm => ?_, h1⟩
        rcases List.mem_cons.mp hm with rfl | hm
        · exact e rfl
        · exact e (leS_anti (hx y (by simp)) (hy x hm))
      · exact fun h1 => h1.2
/-- a document of items -/
def docB (d : Doc) : Bool := decide ((names d).length ≤ 8) && decide (names d).Nodup && (d.filter Item.isRef).all fun it => decide (it.name ∈ names d)
theorem M_isdoc {d : Doc} (h1 : 1 ≤ d.length) (h2 : d.length ≤ 30) (hs : ∀ it ∈ d, strOk it.name = true) (hit : ∀ it ∈ d, M_is_item [itemD it] = some (.bl true)) : M_is_document [docD d] = some (.bl (docB d)) := by
  have hsm : small d.length = true := small_le' (by omega)
  have c0 : compGo (tName 1) cYes (fz (fCall 1 M_is_item (fsCons (fVar 1) fsNil))) [some (docD d), none, none] (d.map itemD) = some ((d.map fun _ => true).map .bl) := by
    rw [compGo_typed itemD (fun x => [some (docD d), some (itemD x), none]) (fun _ => true) (fun x => .bl true) d (fun _ _ => rfl) (fun _ _ => rfl) (fun x hx _ => by simp [hit x hx])]
    rw [show d.filter (fun _ => true) = d by simp, List.map_map]
    rfl
  have hn := M_names (d := d) (by omega)
  have hno := namesOk hs
  have hnl := names_len d
  have cle := SetTxt.cntT_le (names d) (names d).length
  have cnd := SetTxt.cntT_nodup (names d) (names d).length (Nat.le_refl _)
  rw [List.take_length] at cnd
  have hls : gLenSet (.lst ((names d).map .str)) = some (.int (SetTxt.cntT (names d) (names d).length : Nat)) := by
    have : (names d).length ≤ 3000 := by omega
    simp only [gLenSet, strsOf_map, Option.bind_some, this, if_true]
  have c1 : compGo (tName 1) (tb (b2 gEq (b2 gIdx (fVarW 1) (fC (.int 0))) (fC (.str "ref")))) (b2 gIn (b2 gIdx (fVarW 1) (fC (.int 1))) (fVarW 2)) [some (docD d), none, some (.lst ((names d).map .str))] (d.map itemD) = some (((d.filter Item.isRef).map fun it => decide (it.name ∈ names d)).map .bl) := by
    rw [compGo_typed itemD (fun x => [some (docD d), some (itemD x), some (.lst ((names d).map .str))]) Item.isRef (fun x => .bl (decide (x.name ∈ names d))) d (fun _ _ => rfl) (fun x _ => by simp) (fun x hx hp => by
      cases x <;> simp [Item.isRef] at hp
      rename_i s
      have := in_strs (s := s) (hs _ hx) hno
      simp [Item.name, this]
      try exact decide_eq_decide.mpr Iff.rfl)]
    rw [List.map_map]; rfl
  have g1 : (1 : Int) ≤ (d.length : Nat) := by omega
  have g2 : ((d.length : Nat) : Int) ≤ 30 := by omega
  have hlD : gLen (docD d) = some (.int (d.length : Nat)) := by simp [docD, lenT]
  have hlN : gLen (.lst ((names d).map .str)) = some (.int ((names d).length : Nat)) := by simp [gLen]
  have ht : isT "tuple" (docD d) = some (.bl true) := rfl
  have hb : boolsOf ((d.map fun _ => true).map D.bl) = some (d.map fun _ => true) := boolsOf_map _
  have hall : (d.map fun _ => true).all id = true := by simp
  generalize SetTxt.cntT (names d) (names d).length = c at *
  apply run_rt
  simp only [B_is_document]
  by_cases q1 : (8 : Int) < ((names d).length : Nat)
  · have q2 : ¬ (names d).length ≤ 8 := by omega
    simp [hlD, ht, g1, g2, hsm, wipeR, c0, gAll, hb, hall, hn, hlN, q1, docB, q2, -List.map_map]
  · have q2 : (names d).length ≤ 8 := by omega
    by_cases q3 : ((c : Nat) : Int) < ((names d).length : Nat)
    · have q4 : ¬ (names d).Nodup := fun z => by have := cnd.mpr z; omega
      simp [hlD, ht, g1, g2, hsm, wipeR, c0, gAll, hb, hall, hn, hlN, q1, docB, q2, hls, q3, q4, -List.map_map]
    · have q4 : (names d).Nodup := cnd.mp (by omega)
      simp [hlD, ht, g1, g2, hsm, wipeR, c0, gAll, hb, hall, hn, hlN, q1, docB, q2, hls, q3, q4, c1, boolsOf_map, -List.map_map, -List.map_const', -List.all_map, -List.all_filter]
      try simp [List.all_map, Function.comp_def]
theorem M_lisdoc {d : Doc} (h1 : 1 ≤ d.length) (h2 : d.length ≤ 30) (hs : ∀ it ∈ d, strOk it.name = true) (hit : ∀ it ∈ d, M__law_is_item [itemD it] = some (.bl true)) : M__law_is_document [docD d] = some (.bl (docB d)) := by
  have hsm : small d.length = true := small_le' (by omega)
  have hno := namesOk hs
  have hnl := names_len d
  have c0 : compGo (tName 1) (nb (tb (fz (fCall 1 M__law_is_item (fsCons (fVar 1) fsNil))))) (fVar 1) [some (docD d), none, none, none, none] (d.map itemD) = some [] := by
    rw [compGo_typed itemD (fun x => [some (docD d), some (itemD x), none, none, none]) (fun _ => false) (fun x => itemD x) d (fun _ _ => rfl) (fun x hx => by simp [hit x hx]) (fun _ _ h => by simp at h)]
    simp
  have c1 : compGo (tName 1) (tb (b2 gEq (b2 gIdx (fVarW 1) (fC (.int 0))) (fC (.str "mark")))) (b2 gIdx (fVarW 1) (fC (.int 1))) [some (docD d), none, none, none, none] (d.map itemD) = some ((names d).map .str) := by
    rw [compGo_typed itemD (fun x => [some (docD d), some (itemD x), none, none, none]) Item.isMark (fun x => .str x.name) d (fun _ _ => rfl) (fun x _ => by simp) (fun x _ hx => by
      cases x <;> simp [Item.isMark] at hx
      simp [Item.name])]
    simp [names]
  have hso : gSortS (.lst ((names d).map .str)) = some (.opn ((srtS (names d)).map .str)) := by
    have : (names d).length < 64 := by omega
    simp only [gSortS, strsOf_map, Option.bind_some, this, if_true]
  have sp := srtS_perm (names d)
  have adj := adj_nodup (srtS (names d)) (srtS_pw (names d))
  have snd : (srtS (names d)).Nodup ↔ (names d).Nodup := sp.nodup_iff
  have smem : ∀ s, s ∈ srtS (names d) ↔ s ∈ names d := fun s => sp.mem_iff
  have sno : ∀ s ∈ srtS (names d), strOk s = true := fun s h => hno s ((smem s).mp h)
  have slen : (srtS (names d)).length = (names d).length := sp.length_eq
  generalize srtS (names d) = S at *
  have c2 : compGo (tTup 2 (tCons (tName 3) (tCons (tName 4) tNil))) (tb (b2 gEq (fVarW 3) (fVarW 4))) (fC (.int 1)) [some (docD d), none, some (.lst (S.map .str)), none, none] (zipD (S.map .str) ((S.drop 1).map .str)) = some (((S.zip (S.drop 1)).filter fun p => decide (p.1 = p.2)).map fun _ => .int 1) := by
    rw [zipD_map]
    rw [compGo_typed (fun p : Str × Str => D.tup [.str p.1, .str p.2]) (fun p => [some (docD d), none, some (.lst (S.map .str)), some (.str p.1), some (.str p.2)]) (fun p => decide (p.1 = p.2)) (fun _ => .int 1) (S.zip (S.drop 1)) (fun _ _ => by simp) (fun p hp => by
      have h1 := sno _ (List.of_mem_zip (a := p.1) (b := p.2) hp).1
      have h2 := sno _ (List.mem_of_mem_drop (List.of_mem_zip (a := p.1) (b := p.2) hp).2)
      simp [eq_strs h1 h2]) (fun _ _ _ => rfl)]
  have c3 : compGo (tName 1) (fAnd (tb (b2 gEq (b2 gIdx (fVarW 1) (fC (.int 0))) (fC (.str "ref")))) (tb (b2 gNotIn (b2 gIdx (fVarW 1) (fC (.int 1))) (fVarW 2)))) (fVar 1) [some (docD d), none, some (.lst (S.map .str)), none, none] (d.map itemD) = some ((d.filter fun it => it.isRef && !decide (it.name ∈ S)).map itemD) := by
    rw [compGo_typed itemD (fun x => [some (docD d), some (itemD x), some (.lst (S.map .str)), none, none]) (fun it => it.isRef && !decide (it.name ∈ S)) itemD d (fun _ _ => rfl) (fun x hx => by
      cases x with
      | ref s =>
        have := nin_strs (s := s) (hs _ hx) sno
        simp [Item.isRef, Item.name, this]
        try exact decide_eq_decide.mpr Iff.rfl
      | _ => simp [Item.isRef]) (fun _ _ _ => by simp)]
  have o1 : ∀ l : List (Str × Str), okL 11 (l.map fun _ => D.int 1) = true := fun l => by
    rw [okL_iff]; intro x hx; obtain ⟨_, _, rfl⟩ := List.mem_map.mp hx; exact okI
  have o2 : ∀ l : Doc, (∀ it ∈ l, it ∈ d) → okL 11 (l.map itemD) = true := fun l hl => by
    rw [okL_iff]; intro x hx; obtain ⟨it, hi, rfl⟩ := List.mem_map.mp hx; exact ok_item (n := 10) (hs it (hl it hi))
  have e1 := ne_nil' (o1 ((S.zip (S.drop 1)).filter fun p => decide (p.1 = p.2)))
  have e2 := eq_nil (o2 (d.filter fun it => it.isRef && !decide (it.name ∈ S)) fun it h => (List.mem_filter.mp h).1)
  have e0 : gNe (.lst []) (.lst []) = some (.bl false) := ne_nil' (l := []) (by simp [okL])
  have g1 : (1 : Int) ≤ (d.length : Nat) := by omega
  have g2 : ((d.length : Nat) : Int) ≤ 30 := by omega
  have hlD : gLen (docD d) = some (.int (d.length : Nat)) := by simp [docD, lenT]
  have hlN : gLen (.lst (S.map .str)) = some (.int (S.length : Nat)) := by simp [gLen]
  have ht : isT "tuple" (docD d) = some (.bl true) := rfl
  have hsmN : small (zipD (S.map D.str) ((S.drop 1).map D.str)).length = true := small_le' (by rw [zipD_len, List.length_map]; omega)
  have hd1 : gSl (.lst (S.map .str)) (some 1) none = some (.opn ((S.drop 1).map .str)) := by
    by_cases hS : 1 ≤ S.length
    · simp only [gSl, cut_hi (xs := S.map D.str) (k := 1) (by omega) (by simp; omega), List.map_drop]; rfl
    · have : S = [] := List.length_eq_zero_iff.mp (by omega)
      subst this
      rfl
  have m1 : decide (((S.zip (S.drop 1)).filter fun p => decide (p.1 = p.2)).map (fun _ => D.int 1) = []) = decide (names d).Nodup := by
    rw [decide_eq_decide, List.map_eq_nil_iff, adj, snd]
  have m2 : decide ((d.filter fun it => it.isRef && !decide (it.name ∈ S)).map itemD = []) = (d.filter Item.isRef).all fun it => decide (it.name ∈ names d) := by
    rw [Bool.eq_iff_iff, decide_eq_true_iff, List.map_eq_nil_iff, List.filter_eq_nil_iff, List.all_eq_true]
    constructor
    · intro h it hi
      have := h it (List.mem_filter.mp hi).1
      rw [(List.mem_filter.mp hi).2] at this
      simp at this
      simp [(smem _).mp this]
    · intro h it hi
      by_cases hr : it.isRef = true
      · have := h it (List.mem_filter.mpr ⟨hi, hr⟩)
        simp at this
        simp [(smem _).mpr this]
      · simp [hr]
  rw [m1] at e1
  rw [m2] at e2
  generalize ((S.zip (S.drop 1)).filter fun p => decide (p.1 = p.2)).map (fun _ => D.int 1) = Z1 at *
  generalize (d.filter fun it => it.isRef && !decide (it.name ∈ S)).map itemD = Z2 at *
  generalize hB : (d.filter Item.isRef).all (fun it => decide (it.name ∈ names d)) = B at *
  have hz : zip2 (.lst (S.map D.str)) (.lst ((S.drop 1).map D.str)) = some (zipD (S.map D.str) ((S.drop 1).map D.str)) := rfl
  generalize zipD (S.map D.str) ((S.drop 1).map D.str) = Z3 at *
  apply run_rt
  simp only [B__law_is_document]
  by_cases q1 : (8 : Int) < (S.length : Nat)
  · have q2 : ¬ (names d).length ≤ 8 := by omega
    simp [hlD, ht, g1, g2, hsm, wipeR, c0, c1, e0, hso, hlN, q1, docB, q2]
  · have q2 : (names d).length ≤ 8 := by omega
    by_cases q3 : (names d).Nodup
    · simp [hlD, ht, g1, g2, hsm, wipeR, c0, c1, e0, hso, hlN, q1, docB, q2, hd1, hz, hsmN, c2, e1, q3, c3, e2, hB, -List.map_drop, -List.drop_one]
    · simp [hlD, ht, g1, g2, hsm, wipeR, c0, c1, e0, hso, hlN, q1, docB, q2, hd1, hz, hsmN, c2, e1, q3, c3, e2, hB, -List.map_drop, -List.drop_one]
end PL
/-! ### part PT24 -/
namespace PL
open PySem L2 PLaw

theorem doc_same {v : D} (h : okV 12 v = true) : ∃ b, M_is_document [v] = some (.bl b) ∧ M__law_is_document [v] = some (.bl b) := by
  have hn := noV h
  cases v with
  | opn xs => exact absurd rfl (hn.1 xs)
  | scr xs => exact absurd rfl (hn.2.1 xs)
  | dic xs => exact absurd rfl (hn.2.2 xs)
  | tup xs =>
    rw [vT] at h
    have hl : gLen (.tup xs) = some (.int (xs.length : Nat)) := lenT
    by_cases g1 : (1 : Int) ≤ (xs.length : Nat)
    · by_cases g2 : ((xs.length : Nat) : Int) ≤ 30
      · by_cases ha : ∀ x ∈ xs, isIt x = true
        · obtain ⟨d, rfl, hs⟩ := items_of h ha
          simp only [List.length_map] at g1 g2
          have i1 : ∀ it ∈ d, M_is_item [itemD it] = some (.bl true) := fun it hi => by
            rw [M_isitem (h _ (List.mem_map.mpr ⟨it, hi, rfl⟩)), ha _ (List.mem_map.mpr ⟨it, hi, rfl⟩)]
          have i2 : ∀ it ∈ d, M__law_is_item [itemD it] = some (.bl true) := fun it hi => by
            rw [M_lisitem (h _ (List.mem_map.mpr ⟨it, hi, rfl⟩)), ha _ (List.mem_map.mpr ⟨it, hi, rfl⟩)]
          exact ⟨docB d, M_isdoc (by omega) (by omega) hs i1, M_lisdoc (by omega) (by omega) hs i2⟩
        · have hsm : small xs.length = true := small_le' (by omega)
          have c0 : compGo (tName 1) cYes (fz (fCall 1 M_is_item (fsCons (fVar 1) fsNil))) [some (.tup xs), none, none] xs = some ((xs.map isIt).map .bl) := by
            have := compGo_typed (t := tName 1) (c := cYes) (e := fz (fCall 1 M_is_item (fsCons (fVar 1) fsNil))) (ρ := [some (.tup xs), none, none]) (fun x : D => x) (fun x => [some (.tup xs), some x, none]) (fun _ => true) (fun x => .bl (isIt x)) xs (fun _ _ => rfl) (fun _ _ => rfl) (fun x hx _ => by simp [no_V (h x hx), M_isitem (h x hx)])
            simp only [List.map_id'] at this
            rw [this, show xs.filter (fun _ => true) = xs by simp, List.map_map]
            rfl
          have c1 : compGo (tName 1) (nb (tb (fz (fCall 1 M__law_is_item (fsCons (fVar 1) fsNil))))) (fVar 1) [some (.tup xs), none, none, none, none] xs = some (xs.filter fun x => !isIt x) := by
            have := compGo_typed (t := tName 1) (c := nb (tb (fz (fCall 1 M__law_is_item (fsCons (fVar 1) fsNil))))) (e := fVar 1) (ρ := [some (.tup xs), none, none, none, none]) (fun x : D => x) (fun x => [some (.tup xs), some x, none, none, none]) (fun x => !isIt x) (fun x => x) xs (fun _ _ => rfl) (fun x hx => by simp [no_V (h x hx), M_lisitem (h x hx)]) (fun x hx _ => by simp [no_V (h x hx)])
            simpa only [List.map_id'] using this
          have hb := boolsOf_map (xs.map isIt)
          have hall : (xs.map isIt).all id = false := by
            rw [Bool.eq_false_iff]
            intro z
            exact ha (by simpa using z)
          have e1 := ne_nil' (l := xs.filter fun x => !isIt x) (by rw [okL_iff]; intro x hx; exact okV_D _ _ (h x (List.mem_filter.mp hx).1))
          have e2 : decide (xs.filter (fun x => !isIt x) = []) = false := by
            rw [decide_eq_false_iff_not, List.filter_eq_nil_iff]
            intro z
            exact ha fun x hx => by simpa using z x hx
          rw [e2] at e1
          generalize (xs.map isIt).map D.bl = Z at *
          generalize xs.filter (fun x => !isIt x) = Z2 at *
          refine ⟨false, run_rt ?_, run_rt ?_⟩
          · simp [B_is_document, hl, g1, g2, hsm, wipeR, c0, gAll, hb, hall, asSeq]
          · simp [B__law_is_document, hl, g1, g2, hsm, wipeR, c1, e1, asSeq]
      · exact ⟨false, run_rt (by simp [B_is_document, hl, g1, g2]), run_rt (by simp [B__law_is_document, hl, g1, g2])⟩
    · exact ⟨false, run_rt (by simp [B_is_document, hl, g1]), run_rt (by simp [B__law_is_document, hl, g1])⟩
  | _ => exact ⟨false, run_rt (by simp [B_is_document]), run_rt (by simp [B__law_is_document])⟩
theorem num_same {d : Doc} {v : D} (hd : d.length ≤ 1000) (hs : ∀ it ∈ d, strOk it.name = true) (h : okV 12 v = true) : ∃ b, M_is_numbering [docD d, v] = some (.bl b) ∧ M__law_is_numbering [docD d, v] = some (.bl b) := by
  have hn := noV h
  have hnl := names_len d
  have hm := M_names (d := d) (by omega)
  have hsmd : small d.length = true := small_le' (by omega)
  have hlN : gLen (.lst ((names d).map .str)) = some (.int ((names d).length : Nat)) := by simp [gLen]
  have c2 : ∀ v : D, compGo (tName 2) (tb (b2 gEq (b2 gIdx (fVarW 2) (fC (.int 0))) (fC (.str "mark")))) (fVar 2) [some (docD d), some v, none, none] (d.map itemD) = some ((d.filter Item.isMark).map itemD) := fun v => by
    rw [compGo_typed itemD (fun x => [some (docD d), some v, some (itemD x), none]) Item.isMark itemD d (fun _ _ => rfl) (fun x _ => by simp) (fun _ _ _ => by simp)]
  have hl2 : gLen (.lst ((d.filter Item.isMark).map itemD)) = some (.int ((names d).length : Nat)) := by simp [gLen, names]
  generalize (d.filter Item.isMark).map itemD = Z at *
  cases v with
  | opn xs => exact absurd rfl (hn.1 xs)
  | scr xs => exact absurd rfl (hn.2.1 xs)
  | dic xs => exact absurd rfl (hn.2.2 xs)
  | tup xs =>
    rw [vT] at h
    have c2 := c2 (.tup xs)
    have hl : gLen (.tup xs) = some (.int (xs.length : Nat)) := lenT
    by_cases g : xs.length = (names d).length
    · have hsm : small xs.length = true := small_le' (by omega)
      have c0 : compGo (tName 2) cYes (fz (fCall 3 M_is_integer (fsCons (fVar 2) (fsCons (fC (.int 1)) (fsCons (fC (.int 1000000000)) fsNil))))) [some (docD d), some (.tup xs), none] xs = some ((xs.map (isI 1 1000000000)).map .bl) := by
        have := compGo_typed (t := tName 2) (c := cYes) (e := fz (fCall 3 M_is_integer (fsCons (fVar 2) (fsCons (fC (.int 1)) (fsCons (fC (.int 1000000000)) fsNil))))) (ρ := [some (docD d), some (.tup xs), none]) (fun x : D => x) (fun x => [some (docD d), some (.tup xs), some x]) (fun _ => true) (fun x => .bl (isI 1 1000000000 x)) xs (fun _ _ => rfl) (fun _ _ => rfl) (fun x hx _ => by simp [no_V (h x hx), M_isint (h x hx)])
        simp only [List.map_id'] at this
        rw [this, show xs.filter (fun _ => true) = xs by simp, List.map_map]
        rfl
      have c1 : compGo (tName 3) (nb (tb (fz (fCall 3 M__law_is_integer (fsCons (fVar 3) (fsCons (fC (.int 1)) (fsCons (b2 gPow (fC (.int 10)) (fC (.int 9))) fsNil))))))) (fVar 3) [some (docD d), some (.tup xs), none, none] xs = some (xs.filter fun x => !isI 1 1000000000 x) := by
        have hp : gPow (.int 10) (.int 9) = some (.int 1000000000) := rfl
        have := compGo_typed (t := tName 3) (c := nb (tb (fz (fCall 3 M__law_is_integer (fsCons (fVar 3) (fsCons (fC (.int 1)) (fsCons (b2 gPow (fC (.int 10)) (fC (.int 9))) fsNil))))))) (e := fVar 3) (ρ := [some (docD d), some (.tup xs), none, none]) (fun x : D => x) (fun x => [some (docD d), some (.tup xs), none, some x]) (fun x => !isI 1 1000000000 x) (fun x => x) xs (fun _ _ => rfl) (fun x hx => by simp [no_V (h x hx), hp, M_lisint (h x hx)]) (fun x hx _ => by simp [no_V (h x hx)])
        simpa only [List.map_id'] using this
      have hb := boolsOf_map (xs.map (isI 1 1000000000))
      have e1 := eq_nil (l := xs.filter fun x => !isI 1 1000000000 x) (by rw [okL_iff]; intro x hx; exact okV_D _ _ (h x (List.mem_filter.mp hx).1))
      have e2 : decide (xs.filter (fun x => !isI 1 1000000000 x) = []) = (xs.map (isI 1 1000000000)).all id := by
        rw [Bool.eq_iff_iff, decide_eq_true_iff, List.filter_eq_nil_iff]
        simp
      rw [e2] at e1
      generalize hB : (xs.map (isI 1 1000000000)).all id = B at *
      generalize (xs.map (isI 1 1000000000)) = Y at *
      generalize xs.filter (fun x => !isI 1 1000000000 x) = Z2 at *
      refine ⟨B, run_rt ?_, run_rt ?_⟩
      · simp only [B_is_numbering]
        simp [hl, hm, hlN, g, hsm, wipeR, c0, gAll, hb, hB, asSeq]
        rw [← g]
        simp [hsm, c0, gAll, hb, hB]
      · simp only [B__law_is_numbering]
        simp [hl, hsmd, c2, hl2, g, hsm, wipeR, c1, e1]
        rw [← g]
        simp [hsm, c1, e1]
    · have g' : ¬ ((xs.length : Nat) : Int) = ((names d).length : Nat) := by omega
      refine ⟨false, run_rt ?_, run_rt ?_⟩
      · simp only [B_is_numbering]
        simp [hl, hm, hlN, g, g']
      · simp only [B__law_is_numbering]
        simp [hl, hsmd, wipeR, c2, hl2, g, g']
  | _ => exact ⟨false, run_rt (by simp [B_is_numbering]), run_rt (by simp [B__law_is_numbering])⟩
end PL
/-! ### part PT25 -/
namespace PL
open PySem L2 PLaw

/-! ### how large a value is; the paths into it -/
mutual
def nd : D → Nat
  | .tup xs => ndL xs + 1
  | .lst xs => ndL xs + 1
  | _ => 1
def ndL : List D → Nat
  | [] => 0
  | x :: xs => nd x + ndL xs
end
mutual
def pathsT : D → List (List Int)
  | .tup xs => [] :: pathsL 0 xs
  | .lst xs => [] :: pathsL 0 xs
  | _ => [[]]
def pathsL : Nat → List D → List (List Int)
  | _, [] => []
  | i, x :: xs => (pathsT x).map (fun p => ((i : Nat) : Int) :: p) ++ pathsL (i + 1) xs
end
theorem nd_pos : ∀ d : D, 1 ≤ nd d
  | .tup xs => by simp only [nd]; omega
  | .lst xs => by simp only [nd]; omega
  | .non => by simp [nd]
  | .bl _ => by simp [nd]
  | .int _ => by simp [nd]
  | .str _ => by simp [nd]
  | .opn _ => by simp [nd]
  | .scr _ => by simp [nd]
  | .dic _ => by simp [nd]
theorem ndL_app : ∀ a b : List D, ndL (a ++ b) = ndL a + ndL b
  | [], b => by simp [ndL]
  | x :: a, b => by simp only [List.cons_append, ndL, ndL_app a b]; omega
theorem ndL_mem : ∀ {xs : List D} {x : D}, x ∈ xs → nd x ≤ ndL xs
  | y :: xs, x, h => by
    simp only [ndL]
    rcases List.mem_cons.mp h with rfl | h
    · omega
    · have := ndL_mem h; omega
theorem ndL_len : ∀ xs : List D, xs.length ≤ ndL xs
  | [] => by simp [ndL]
  | x :: xs => by have := ndL_len xs; have := nd_pos x; simp only [List.length_cons, ndL]; omega
theorem ndL_set : ∀ (xs : List D) (i : Nat) (d : D) (h : i < xs.length), ndL (xs.set i d) + nd xs[i] = ndL xs + nd d
  | x :: xs, 0, d, _ => by simp only [List.set_cons_zero, ndL, List.getElem_cons_zero]; omega
  | x :: xs, i + 1, d, h => by
    have := ndL_set xs i d (by simpa using h)
    simp only [List.set_cons_succ, ndL, List.getElem_cons_succ]; omega
theorem ndL_rev : ∀ xs : List D, ndL xs.reverse = ndL xs
  | [] => rfl
  | x :: xs => by rw [List.reverse_cons, ndL_app, ndL_rev xs]; simp only [ndL]; omega
theorem ndL_cut (xs : List D) (k : Nat) : ndL (xs.take k) + ndL (xs.drop k) = ndL xs := by rw [← ndL_app, List.take_append_drop]
mutual
theorem paths_count : ∀ d : D, (pathsT d).length = nd d
  | .tup xs => by simp only [pathsT, nd, List.length_cons, pathsL_count xs 0]
  | .lst xs => by simp only [pathsT, nd, List.length_cons, pathsL_count xs 0]
  | .non => by simp [pathsT, nd]
  | .bl _ => by simp [pathsT, nd]
  | .int _ => by simp [pathsT, nd]
  | .str _ => by simp [pathsT, nd]
  | .opn _ => by simp [pathsT, nd]
  | .scr _ => by simp [pathsT, nd]
  | .dic _ => by simp [pathsT, nd]
theorem pathsL_count : ∀ (xs : List D) (i : Nat), (pathsL i xs).length = ndL xs
  | [], i => by simp [pathsL, ndL]
  | x :: xs, i => by simp only [pathsL, ndL, List.length_append, List.length_map, paths_count x, pathsL_count xs (i + 1)]
end
mutual
theorem paths_len : ∀ d : D, ∀ p ∈ pathsT d, p.length ≤ nd d
  | .tup xs => fun p hp => by
    simp only [pathsT, List.mem_cons] at hp
    simp only [nd]
    rcases hp with rfl | hp
    · simp
    · exact pathsL_len xs 0 p hp
  | .lst xs => fun p hp => by
    simp only [pathsT, List.mem_cons] at hp
    simp only [nd]
    rcases hp with rfl | hp
    · simp
    · exact pathsL_len xs 0 p hp
  | .non => by simp [pathsT]
  | .bl _ => by simp [pathsT]
  | .int _ => by simp [pathsT]
  | .str _ => by simp [pathsT]
  | .opn _ => by simp [pathsT]
  | .scr _ => by simp [pathsT]
  | .dic _ => by simp [pathsT]
theorem pathsL_len : ∀ (xs : List D) (i : Nat), ∀ p ∈ pathsL i xs, p.length ≤ ndL xs + 1
  | [], i => by simp [pathsL]
  | x :: xs, i => fun p hp => by
    simp only [pathsL, List.mem_append, List.mem_map] at hp
    simp only [ndL]
    rcases hp with ⟨q, hq, rfl⟩ | hp
    · have := paths_len x q hq; simp; omega
    · have := pathsL_len xs (i + 1) p hp; omega
end
theorem pathsL_mem : ∀ (xs : List D) (k : Nat) (p : List Int), p ∈ pathsL k xs → ∃ (i : Nat) (h : i < xs.length) (q : List Int), p = ((k + i : Nat) : Int) :: q ∧ q ∈ pathsT xs[i]
  | [], k, p, h => by simp [pathsL] at h
  | x :: xs, k, p, h => by
    simp only [pathsL, List.mem_append, List.mem_map] at h
    rcases h with ⟨q, hq, rfl⟩ | h
    · exact ⟨0, by simp, q, by simp, hq⟩
    · obtain ⟨i, hi, q, rfl, hq⟩ := pathsL_mem xs (k + 1) p h
      exact ⟨i + 1, by simp; omega, q, by rw [show k + 1 + i = k + (i + 1) by omega], by simpa using hq⟩
theorem paths_mem {v : D} {p : List Int} (h : p ∈ pathsT v) : p = [] ∨ ∃ xs, (v = .tup xs ∨ v = .lst xs) ∧ ∃ (i : Nat) (h : i < xs.length) (q : List Int), p = ((i : Nat) : Int) :: q ∧ q ∈ pathsT xs[i] := by
  have key : ∀ xs, p ∈ [] :: pathsL 0 xs → p = [] ∨ ∃ (i : Nat) (h : i < xs.length) (q : List Int), p = ((i : Nat) : Int) :: q ∧ q ∈ pathsT xs[i] := fun xs h => by
    rcases List.mem_cons.mp h with h | h
    · exact .inl h
    · obtain ⟨i, hi, q, e, hq⟩ := pathsL_mem xs 0 p h
      rw [Nat.zero_add] at e
      exact .inr ⟨i, hi, q, e, hq⟩
  cases v with
  | tup xs =>
    simp only [pathsT] at h
    rcases key xs h with h | h
    · exact .inl h
    · exact .inr ⟨xs, .inl rfl, h⟩
  | lst xs =>
    simp only [pathsT] at h
    rcases key xs h with h | h
    · exact .inl h
    · exact .inr ⟨xs, .inr rfl, h⟩
  | _ => simp only [pathsT, List.mem_singleton] at h; exact .inl h
theorem paths_loop {n : Nat} {v : D} : ∀ (xs : List D) (k : Nat) (acc : List (List Int)) (c2 c3 : Option D), (∀ x ∈ xs, noOpn x = some x ∧ R__law_paths n [x] = some (.lst ((pathsT x).map numD))) → acc.length + ndL xs ≤ 1000000 → ∃ d2 d3,
    forGo (tTup 2 (tCons (tName 2) (tCons (tName 3) tNil))) (L__law_paths_0 (R__law_paths n)) (enumFrom k xs) [some v, some (.lst (acc.map numD)), c2, c3, none] = some (.nx [some v, some (.lst ((acc ++ pathsL k xs).map numD)), d2, d3, none])
  | [], k, acc, c2, c3, _, _ => ⟨c2, c3, by simp [enumFrom, forGo, pathsL]⟩
  | x :: xs, k, acc, c2, c3, h, hl => by
    obtain ⟨h1, h2⟩ := h x (by simp)
    have hx := nd_pos x
    simp only [ndL] at hl
    have hcnt := paths_count x
    have hplen := paths_len x
    obtain ⟨d2, d3, ih⟩ := paths_loop (n := n) (v := v) xs (k + 1) (acc ++ (pathsT x).map (fun p => ((k : Nat) : Int) :: p)) (some (.int ((k : Nat) : Int))) (some x) (fun y hy => h y (by simp [hy])) (by rw [List.length_append, List.length_map, hcnt]; omega)
    have hc : compGo (tName 4) cYes (fz (b2 gAdd (fTup (fsCons (fVar 2) fsNil)) (fVarW 4))) [some v, some (.lst (acc.map numD)), some (.int ((k : Nat) : Int)), some x, none] ((pathsT x).map numD) = some (((pathsT x).map fun p => ((k : Nat) : Int) :: p).map numD) := by
      rw [compGo_typed numD (fun p => [some v, some (.lst (acc.map numD)), some (.int ((k : Nat) : Int)), some x, some (numD p)]) (fun _ => true) (fun p => numD (((k : Nat) : Int) :: p)) (pathsT x) (fun _ _ => rfl) (fun _ _ => rfl) (fun p hp _ => by
        have hp' := hplen p hp
        have e : gAdd (.tup [.int ((k : Nat) : Int)]) (numD p) = some (numD (((k : Nat) : Int) :: p)) := gAdd_num (a := [((k : Nat) : Int)]) (by simp; omega)
        simp [e])]
      rw [show (pathsT x).filter (fun _ => true) = pathsT x by simp, List.map_map]
      rfl
    have hsm : small (pathsT x).length = true := small_le' (by omega)
    have hadd : gAdd (.lst (acc.map numD)) (.lst (((pathsT x).map fun p => ((k : Nat) : Int) :: p).map numD)) = some (.opn ((acc ++ (pathsT x).map fun p => ((k : Nat) : Int) :: p).map numD)) := by
      have : small (acc.length + (pathsT x).length) = true := small_le' (by omega)
      simp only [gAdd, List.length_map, this, if_true, List.map_append]
    refine ⟨d2, d3, ?_⟩
    simp only [enumFrom]
    rw [forGo_cons (ρ1 := [some v, some (.lst (acc.map numD)), some (.int ((k : Nat) : Int)), some x, none]) (ρ2 := [some v, some (.lst ((acc ++ (pathsT x).map fun p => ((k : Nat) : Int) :: p).map numD)), some (.int ((k : Nat) : Int)), some x, none]) (by simp) (by
      simp only [L__law_paths_0]
      generalize ((pathsT x).map fun p => ((k : Nat) : Int) :: p).map numD = Z at hc hadd
      generalize (acc ++ (pathsT x).map fun p => ((k : Nat) : Int) :: p).map numD = Z2 at hadd
      generalize hP : (pathsT x).map numD = Z3 at *
      have : small Z3.length = true := by rw [← hP, List.length_map]; exact hsm
      simp [h1, h2, this, wipeR, hc, hadd]), ih]
    simp only [pathsL, List.append_assoc]
theorem R_paths : ∀ (n : Nat) (v : D), okV n v = true → nd v ≤ 1000000 → R__law_paths (n + 1) [v] = some (.lst ((pathsT v).map numD))
  | n, v, h, hn => by
    have hv := noV h
    have tl : D.tup [] = numD [] := rfl
    have main : ∀ xs, (v = .tup xs ∨ v = .lst xs) → R__law_paths (n + 1) [v] = some (.lst ((pathsT v).map numD)) := fun xs hxs => by
      have hno := no_V h
      have hcase : ∃ m, n = m + 1 ∧ ∀ x ∈ xs, okV m x = true := by
        cases n with
        | zero => rcases hxs with rfl | rfl <;> simp [okV] at h
        | succ m =>
          refine ⟨m, rfl, ?_⟩
          rcases hxs with rfl | rfl
          · rwa [vT] at h
          · rwa [vL] at h
      obtain ⟨m, rfl, hm⟩ := hcase
      have hnd : nd v = ndL xs + 1 := by rcases hxs with rfl | rfl <;> simp only [nd]
      have hpt : pathsT v = [] :: pathsL 0 xs := by rcases hxs with rfl | rfl <;> simp only [pathsT]
      obtain ⟨d2, d3, hl⟩ := paths_loop (n := m + 1) (v := v) xs 0 [[]] none none (fun x hx => ⟨(no_V (hm x hx)).1, R_paths m x (hm x hx) (by have := ndL_mem hx; omega)⟩) (by simp; omega)
      have hs : asSeq v = some xs := by rcases hxs with rfl | rfl <;> rfl
      have hns : noStr v = true := by rcases hxs with rfl | rfl <;> rfl
      have hit : isT2 "list" "tuple" v = some (.bl true) := by rcases hxs with rfl | rfl <;> rfl
      rw [hpt]
      simp only [List.map_cons, List.map_nil, List.singleton_append] at hl ⊢
      apply run_rt
      simp only [B__law_paths]
      simp [hno, hit, fEnum, hns, hs, tl, hl]
    cases v with
    | tup xs => exact main xs (.inl rfl)
    | lst xs => exact main xs (.inr rfl)
    | opn xs => exact absurd rfl (hv.1 xs)
    | scr xs => exact absurd rfl (hv.2.1 xs)
    | dic xs => exact absurd rfl (hv.2.2 xs)
    | _ => exact run_rt (by simp [B__law_paths, pathsT, tl])
end PL
/-! ### part PT26 -/
namespace PL
open PySem L2 PLaw

theorem ix_nat {xs : List D} {i : Nat} (h : i < xs.length) : gIdx (.lst xs) (.int (i : Nat)) = some xs[i] := PL.atI_nat (List.getElem?_eq_getElem h)
theorem lenL {xs : List D} : gLen (.lst xs) = some (.int (xs.length : Nat)) := (rfl)
theorem cut_lo3 {α : Type} {xs : List α} {k : Nat} : cutD xs none (some (k : Int)) = xs.take k := by
  unfold cutD
  rw [HT.sIx_nat, HT.sIx_none]
  simp
theorem cut_hi3 {α : Type} {xs : List α} {k : Nat} (h : k ≤ xs.length) : cutD xs (some (k : Int)) none = xs.drop k := by
  have := cut_hi (xs := xs) (k := (k : Int)) (by omega) (by omega)
  simpa using this
/-- an index that the digits give -/
theorem modN {ds : List Int} {j : Int} {n : Nat} (h0 : ∀ x ∈ ds, 0 ≤ x) (hj : 0 ≤ j) (hl : j < ds.length) (hn : 0 < n) : ∃ t : Nat, t < n ∧ gIdx (.lst (ds.map .int)) (.int j) = some (.int (atZ ds j)) ∧ gMod (.int (atZ ds j)) (.int (n : Nat)) = some (.int (t : Nat)) := by
  have e0 := h0 _ (atZ_mem (ns := ds) hj hl)
  have e1 := Int.emod_nonneg (atZ ds j) (b := (n : Int)) (by omega)
  have e2 := Int.emod_lt_of_pos (atZ ds j) (b := (n : Int)) (by omega)
  refine ⟨(atZ ds j % (n : Int)).toNat, by omega, ix_ints hj hl, ?_⟩
  rw [mod_int (by omega), show (((atZ ds j % (n : Int)).toNat : Nat) : Int) = atZ ds j % (n : Int) by omega]

/-! ### another value in a value's place -/
def baseO (v : D) : List D := [.non, .bl true, .bl false, .int 7, .int (-1), .int 1000000000000000000000000000000000000000, .str "0", .str "", .tup [], .lst [], .tup [v], .lst [v], .tup [.int 0], .tup [.int 1, .int 0], .int 1, .int 0]
theorem base_ok {v : D} {k : Nat} (h : okV k v = true) : ∀ o ∈ baseO v, okV (k + 1) o = true ∧ nd o ≤ nd v + 3 := by
  have hp := nd_pos v
  have s0 : strOk "0" = true ∧ ("0" : Str).length ≤ 1000 := by decide +kernel
  have s1 : strOk "" = true ∧ ("" : Str).length ≤ 1000 := by decide +kernel
  intro o ho
  simp only [baseO, List.mem_cons, List.not_mem_nil, or_false] at ho
  rcases ho with rfl | rfl | rfl | rfl | rfl | rfl | rfl | rfl | rfl | rfl | rfl | rfl | rfl | rfl | rfl | rfl
  · exact ⟨vN, by simp only [nd]; omega⟩
  · exact ⟨vB, by simp only [nd]; omega⟩
  · exact ⟨vB, by simp only [nd]; omega⟩
  · exact ⟨vI, by simp only [nd]; omega⟩
  · exact ⟨vI, by simp only [nd]; omega⟩
  · exact ⟨vI, by simp only [nd]; omega⟩
  · exact ⟨vS.mpr s0, by simp only [nd]; omega⟩
  · exact ⟨vS.mpr s1, by simp only [nd]; omega⟩
  · exact ⟨vT.mpr (by simp), by simp only [nd, ndL]; omega⟩
  · exact ⟨vL.mpr (by simp), by simp only [nd, ndL]; omega⟩
  · exact ⟨vT.mpr (by simpa using h), by simp only [nd, ndL]; omega⟩
  · exact ⟨vL.mpr (by simpa using h), by simp only [nd, ndL]; omega⟩
  · exact ⟨vT.mpr (by simpa using vI), by simp only [nd, ndL]; omega⟩
  · exact ⟨vT.mpr (by intro x hx; simp at hx; rcases hx with rfl | rfl <;> exact vI), by simp only [nd, ndL]; omega⟩
  · exact ⟨vI, by simp only [nd]; omega⟩
  · exact ⟨vI, by simp only [nd]; omega⟩
theorem pow39 : gPow (.int 10) (.int 39) = some (.int 1000000000000000000000000000000000000000) := (rfl)
theorem M_other {v : D} {ds : List Int} {k : Nat} (h : okV k v = true) (hd : 5 ≤ ds.length) (h0 : ∀ x ∈ ds, 0 ≤ x) : ∃ d, M__law_other_value [v, .lst (ds.map .int)] = some d ∧ okV (k + 1) d = true ∧ nd d ≤ nd v + 3 := by
  have hn := noV h
  have hno := no_V h
  have hb := base_ok h
  have hp := nd_pos v
  have hbl : (baseO v).length = 16 := rfl
  have run : ∀ O : List D, 0 < O.length → (∀ o ∈ O, okV (k + 1) o = true ∧ nd o ≤ nd v + 3) → (∀ (a : Int) (t : Nat) (d : D), gIdx (.lst (ds.map .int)) (.int 1) = some (.int a) → gMod (.int a) (.int (O.length : Nat)) = some (.int (t : Nat)) → gIdx (.lst O) (.int (t : Nat)) = some d → B__law_other_value [some v, some (.lst (ds.map .int)), none] = some (.rt d)) →
      ∃ d, M__law_other_value [v, .lst (ds.map .int)] = some d ∧ okV (k + 1) d = true ∧ nd d ≤ nd v + 3 := fun O h1 h2 h3 => by
    obtain ⟨t, ht, e1, e2⟩ := modN (ds := ds) (j := 1) (n := O.length) h0 (by omega) (by omega) h1
    exact ⟨O[t], run_rt (h3 _ t _ e1 e2 (ix_nat ht)), h2 _ (List.getElem_mem ht)⟩
  have seqs : ∀ xs, (v = .tup xs ∨ v = .lst xs) → ∃ d, M__law_other_value [v, .lst (ds.map .int)] = some d ∧ okV (k + 1) d = true ∧ nd d ≤ nd v + 3 := fun xs hxs => by
    have hnd : nd v = ndL xs + 1 := by rcases hxs with rfl | rfl <;> simp only [nd]
    have hm : ∀ x ∈ xs, okV k x = true := by
      cases k with
      | zero => rcases hxs with rfl | rfl <;> simp [okV] at h
      | succ m =>
        intro x hx
        apply okV_up
        rcases hxs with rfl | rfl
        · exact (vT.mp h) x hx
        · exact (vL.mp h) x hx
    have i1 : isT "int" v = some (.bl false) := by rcases hxs with rfl | rfl <;> rfl
    have i2 : isT2 "list" "tuple" v = some (.bl true) := by rcases hxs with rfl | rfl <;> rfl
    have l1 : gList v = some (.opn xs) := by rcases hxs with rfl | rfl <;> rfl
    have t1 : gTuple v = some (.tup xs) := by rcases hxs with rfl | rfl <;> rfl
    have r1 : (gRev v).map frzD = some (.lst xs.reverse) ∨ (gRev v).map frzD = some (.tup xs.reverse) := by rcases hxs with rfl | rfl; exact .inr rfl; exact .inl rfl
    have t2 : ∃ w, (gRev v).map frzD = some w ∧ gTuple w = some (.tup xs.reverse) := by
      rcases r1 with e | e
      · exact ⟨_, e, rfl⟩
      · exact ⟨_, e, rfl⟩
    obtain ⟨w, w1, w2⟩ := t2
    refine run ([.lst xs, .tup xs, .tup xs.reverse, .lst xs] ++ baseO v) (by simp) (fun o ho => ?_) fun a t d m1 m2 m3 => ?_
    · rcases List.mem_append.mp ho with ho | ho
      · simp only [List.mem_cons, List.not_mem_nil, or_false] at ho
        rcases ho with rfl | rfl | rfl | rfl
        · exact ⟨vL.mpr hm, by simp only [nd]; omega⟩
        · exact ⟨vT.mpr hm, by simp only [nd]; omega⟩
        · exact ⟨vT.mpr fun x hx => hm x (List.mem_reverse.mp hx), by simp only [nd, ndL_rev]; omega⟩
        · exact ⟨vL.mpr hm, by simp only [nd]; omega⟩
      · exact hb o ho
    · have hsm : small (4 + 16) = true := small_le' (by omega)
      simp only [baseO, List.cons_append, List.nil_append] at m3
      have m2 : gMod (.int a) (.int 20) = some (.int (t : Nat)) := m2
      simp only [B__law_other_value]
      obtain ⟨u, hu, hw⟩ := Option.map_eq_some_iff.mp w1
      simp [hno, i1, i2, l1, t1, hu, hw, w2, gSub, pow39, gAdd, hsm, lenL, m1, m2, m3]
  cases v with
  | opn xs => exact absurd rfl (hn.1 xs)
  | scr xs => exact absurd rfl (hn.2.1 xs)
  | dic xs => exact absurd rfl (hn.2.2 xs)
  | tup xs => exact seqs xs (.inl rfl)
  | lst xs => exact seqs xs (.inr rfl)
  | int i =>
    refine run ([.int (i + 1), .int (i - 1), .bl (i != 0), .int (i + 1), .int (i - 1), .bl (i != 0)] ++ baseO (.int i)) (by simp) (fun o ho => ?_) fun a t d m1 m2 m3 => ?_
    · rcases List.mem_append.mp ho with ho | ho
      · simp only [List.mem_cons, List.not_mem_nil, or_false] at ho
        rcases ho with rfl | rfl | rfl | rfl | rfl | rfl
        · exact ⟨vI, by simp only [nd]; omega⟩
        · exact ⟨vI, by simp only [nd]; omega⟩
        · exact ⟨vB, by simp only [nd]; omega⟩
        · exact ⟨vI, by simp only [nd]; omega⟩
        · exact ⟨vI, by simp only [nd]; omega⟩
        · exact ⟨vB, by simp only [nd]; omega⟩
      · exact hb o ho
    · have hsm : small (6 + 16) = true := small_le' (by omega)
      simp only [baseO, List.cons_append, List.nil_append] at m3
      have m2 : gMod (.int a) (.int 22) = some (.int (t : Nat)) := m2
      simp only [B__law_other_value]
      simp [gSub, pow39, gAdd, hsm, lenL, m1, m2, m3]
  | bl i =>
    refine run (baseO (.bl i)) (by simp [baseO]) hb fun a t d m1 m2 m3 => ?_
    simp only [baseO] at m3
    have m2 : gMod (.int a) (.int 16) = some (.int (t : Nat)) := m2
    have ib : isT "bool" (.bl i) = some (.bl true) := isb_bl
    simp only [B__law_other_value]
    simp [gSub, pow39, lenL, m1, m2, m3]
  | _ =>
    refine run (baseO _) (by simp [baseO]) hb fun a t d m1 m2 m3 => ?_
    simp only [baseO] at m3
    have m2 : gMod (.int a) (.int 16) = some (.int (t : Nat)) := m2
    simp only [B__law_other_value]
    simp [gSub, pow39, lenL, m1, m2, m3]

/-! ### an item moved -/
theorem M_moved {xs : List D} {i : Nat} {ds : List Int} (hi : i < xs.length) (hx : xs.length ≤ 1000000) (hd : 5 ≤ ds.length) (h0 : ∀ x ∈ ds, 0 ≤ x) : ∃ ys, M__law_moved_item [.lst xs, .int (i : Nat), .lst (ds.map .int)] = some (.opn ys) ∧ (∀ y ∈ ys, y ∈ xs) ∧ ndL ys ≤ 2 * ndL xs := by
  obtain ⟨t, ht, e1, e2⟩ := modN (ds := ds) (j := 2) (n := xs.length) h0 (by omega) (by omega) (by omega)
  have f1 : gIdx (.lst (ds.map .int)) (.int 0) = some (.int (atZ ds 0)) := ix_ints (by omega) (by omega)
  have f2 : gMod (.int (atZ ds 0)) (.int 3) = some (.int (atZ ds 0 % 3)) := mod_int (by omega)
  have hl : gLen (.lst xs) = some (.int (xs.length : Nat)) := rfl
  have hix := ix_nat hi
  have c1 := cut_lo3 (xs := xs) (k := i)
  have c2 : cutD xs (some ((i : Int) + 1)) none = xs.drop (i + 1) := cut_hi3 (k := i + 1) (by omega)
  have c3 := cut_lo3 (xs := xs) (k := t)
  have c4 := cut_hi3 (xs := xs) (k := t) (by omega)
  have rl : (xs.take i ++ xs.drop (i + 1)).length = xs.length - 1 := by simp; omega
  have c5 := cut_lo3 (xs := xs.take i ++ xs.drop (i + 1)) (k := t)
  have c6 := cut_hi3 (xs := xs.take i ++ xs.drop (i + 1)) (k := t) (by omega)
  have n1 : ndL (xs.take i) + nd xs[i] + ndL (xs.drop (i + 1)) = ndL xs := by
    have := ndL_cut xs i
    rw [List.drop_eq_getElem_cons hi] at this
    simp only [ndL] at this
    omega
  have n2 := ndL_cut xs t
  have n3 := ndL_cut (xs.take i ++ xs.drop (i + 1)) t
  have hmem := List.getElem_mem hi
  have hadd : ∀ a b : List D, a.length + b.length ≤ 3000000 → gAdd (.lst a) (.lst b) = some (.opn (a ++ b)) := fun a b h => by
    have : small (a.length + b.length) = true := small_le' (by omega)
    simp only [gAdd, this, if_true]
  generalize xs[i] = x at *
  by_cases q1 : atZ ds 0 % 3 = 0
  · refine ⟨xs.take i ++ xs.drop (i + 1), run_rt ?_, fun y hy => ?_, ?_⟩
    · simp only [B__law_moved_item]
      simp (disch := (simp; omega)) [hl, e1, e2, f1, f2, q1, gSl, c1, c2, hadd]
    · rcases List.mem_append.mp hy with hy | hy
      · exact List.mem_of_mem_take hy
      · exact List.mem_of_mem_drop hy
    · rw [ndL_app]; omega
  · by_cases q2 : atZ ds 0 % 3 = 1
    · refine ⟨xs.take t ++ [x] ++ xs.drop t, run_rt ?_, fun y hy => ?_, ?_⟩
      · simp only [B__law_moved_item]
        simp (disch := (simp; omega)) [hl, e1, e2, f1, f2, q1, q2, gSl, c3, c4, hix, hadd]
      · simp only [List.mem_append, List.mem_singleton] at hy
        rcases hy with (hy | rfl) | hy
        · exact List.mem_of_mem_take hy
        · exact hmem
        · exact List.mem_of_mem_drop hy
      · rw [ndL_app, ndL_app]; simp only [ndL]; omega
    · refine ⟨(xs.take i ++ xs.drop (i + 1)).take t ++ [x] ++ (xs.take i ++ xs.drop (i + 1)).drop t, run_rt ?_, fun y hy => ?_, ?_⟩
      · simp only [B__law_moved_item]
        have d1 := hadd (xs.take i) (xs.drop (i + 1)) (by simp; omega)
        generalize xs.take i ++ xs.drop (i + 1) = R at *
        simp (disch := (simp; omega)) [hl, e1, e2, f1, f2, q1, q2, gSl, c1, c2, d1, c5, c6, hix, hadd]
      · simp only [List.mem_append, List.mem_singleton] at hy
        have hR : ∀ z, z ∈ xs.take i ++ xs.drop (i + 1) → z ∈ xs := fun z hz => by
          rcases List.mem_append.mp hz with hz | hz
          · exact List.mem_of_mem_take hz
          · exact List.mem_of_mem_drop hz
        rcases hy with (hy | rfl) | hy
        · exact hR _ (List.mem_of_mem_take hy)
        · exact hmem
        · exact hR _ (List.mem_of_mem_drop hy)
      · rw [ndL_app] at n3
        rw [ndL_app, ndL_app]; simp only [ndL]
        omega
end PL
/-! ### part PT27 -/
namespace PL
open PySem L2 PLaw

theorem R_change {ds : List Int} (hd : 5 ≤ ds.length) (h0 : ∀ x ∈ ds, 0 ≤ x) : ∀ (n : Nat) (v : D) (p : List Int) (k : Nat), okV k v = true → k ≤ n → p ∈ pathsT v → nd v ≤ 500000 → ∃ d, R__law_change_at (n + 1) [v, numD p, .lst (ds.map .int)] = some d ∧ okV (k + 1) d = true ∧ nd d ≤ 2 * nd v + 20
  | n, v, p, k, h, hk, hp, hnd => by
    have tl : D.tup [] = numD [] := rfl
    have hno := no_V h
    rcases paths_mem hp with rfl | ⟨xs, hxs, i, hi, q, rfl, hq⟩
    · obtain ⟨d, e1, e2, e3⟩ := M_other h hd h0
      refine ⟨d, run_rt ?_, e2, by omega⟩
      simp only [B__law_change_at]
      simp [hno, tl, e1]
    · obtain ⟨m, rfl, hm⟩ : ∃ m, k = m + 1 ∧ ∀ x ∈ xs, okV m x = true := by
        cases k with
        | zero => rcases hxs with rfl | rfl <;> simp [okV] at h
        | succ m =>
          refine ⟨m, rfl, ?_⟩
          rcases hxs with rfl | rfl
          · rwa [vT] at h
          · rwa [vL] at h
      obtain ⟨n', rfl⟩ : ∃ n', n = n' + 1 := ⟨n - 1, by omega⟩
      have hnv : nd v = ndL xs + 1 := by rcases hxs with rfl | rfl <;> simp only [nd]
      have hlen := ndL_len xs
      have hmem := List.getElem_mem hi
      have hxi := hm _ hmem
      have hnx := ndL_mem hmem
      obtain ⟨d, r1, r2, r3⟩ := R_change hd h0 n' xs[i] q m hxi (by omega) hq (by omega)
      obtain ⟨ys, y1, y2, y3⟩ := M_moved (xs := xs) (i := i) (ds := ds) hi (by omega) hd h0
      have hset := ndL_set xs i d hi
      have l1 : gList v = some (.opn xs) := by rcases hxs with rfl | rfl <;> rfl
      have hix := ix_nat hi
      have p0 : gIdx (numD (((i : Nat) : Int) :: q)) (.int 0) = some (.int (i : Nat)) := by
        have : gIdx (numD (((i : Nat) : Int) :: q)) (.int ((0 : Nat) : Int)) = some (.int (i : Nat)) := PL.atI_nat (xs := (((i : Nat) : Int) :: q).map D.int) (j := 0) rfl
        exact this
      have p1 : gSl (numD (((i : Nat) : Int) :: q)) (some 1) none = some (numD q) := by
        simp only [numD, gSl]
        have := cut_hi3 (xs := (((i : Nat) : Int) :: q).map D.int) (k := 1) (by simp)
        have e : cutD ((((i : Nat) : Int) :: q).map D.int) (some 1) none = ((((i : Nat) : Int) :: q).map D.int).drop 1 := this
        rw [e]; rfl
      have pl : gLen (numD (((i : Nat) : Int) :: q)) = some (.int ((q.length : Nat) + 1)) := by simp [numD, lenT]
      have f1 : gIdx (.lst (ds.map .int)) (.int 3) = some (.int (atZ ds 3)) := ix_ints (by omega) (by omega)
      have f2 : gMod (.int (atZ ds 3)) (.int 2) = some (.int (atZ ds 3 % 2)) := mod_int (by omega)
      have nd' := no_V r2
      have ixn : ixN xs.length ((i : Nat) : Int) = some i := by
        simp [ixN]; omega
      have hne : ¬ (((i : Nat) : Int) :: q) = [] := by simp
      have fin : ∀ zs : List D, (∀ z ∈ zs, okV (m + 1) z = true) → ndL zs ≤ 2 * ndL xs + 20 → B__law_change_at (R__law_change_at (n' + 1)) [some v, some (numD (((i : Nat) : Int) :: q)), some (.lst (ds.map .int)), none] = ((gIceT 3 (gRet (fIf (tb (u1 (isT "list") (fVarW 0))) (fVar 3) (u1 gTuple (fVarW 3))))) [some v, some (numD (((i : Nat) : Int) :: q)), some (.lst (ds.map .int)), some (.opn zs)]).bind (thenG gNil) →
          ∃ d, R__law_change_at (n' + 1 + 1) [v, numD (((i : Nat) : Int) :: q), .lst (ds.map .int)] = some d ∧ okV (m + 1 + 1) d = true ∧ nd d ≤ 2 * nd v + 20 := fun zs hz hn he => by
        rcases hxs with rfl | rfl
        · exact ⟨.tup zs, run_rt (by rw [show ([D.tup xs, numD (((i : Nat) : Int) :: q), .lst (ds.map .int)].map some ++ List.replicate (4 - [D.tup xs, numD (((i : Nat) : Int) :: q), .lst (ds.map .int)].length) none) = [some (.tup xs), some (numD (((i : Nat) : Int) :: q)), some (.lst (ds.map .int)), none] from rfl, he]; simp [gIceT]), vT.mpr hz, by simp only [nd]; omega⟩
        · exact ⟨.lst zs, run_rt (by rw [show ([D.lst xs, numD (((i : Nat) : Int) :: q), .lst (ds.map .int)].map some ++ List.replicate (4 - [D.lst xs, numD (((i : Nat) : Int) :: q), .lst (ds.map .int)].length) none) = [some (.lst xs), some (numD (((i : Nat) : Int) :: q)), some (.lst (ds.map .int)), none] from rfl, he]; simp [gIceT]), vL.mpr hz, by simp only [nd]; omega⟩
      by_cases c1 : q.length = 0
      · have c1' : ((q.length : Nat) : Int) + 1 = 1 := by omega
        by_cases c2 : atZ ds 3 % 2 = 0
        · refine fin ys (fun z hz => okV_up _ _ (hm z (y2 z hz))) (by omega) ?_
          simp only [B__law_change_at]
          simp [hno, tl, hne, l1, pl, c1', f1, f2, c2, gIceT, p0, y1]
        · refine fin (xs.set i d) (fun z hz => ?_) (by omega) ?_
          · rcases List.mem_or_eq_of_mem_set hz with hz | rfl
            · exact okV_up _ _ (hm z hz)
            · exact r2
          · simp only [B__law_change_at]
            simp [hno, tl, hne, l1, pl, c1', f1, f2, c2, gSetIx, p0, p1, hix, r1, nd', ixn]
      · have c1' : ¬ ((q.length : Nat) : Int) + 1 = 1 := by omega
        refine fin (xs.set i d) (fun z hz => ?_) (by omega) ?_
        · rcases List.mem_or_eq_of_mem_set hz with hz | rfl
          · exact okV_up _ _ (hm z hz)
          · exact r2
        · simp only [B__law_change_at]
          simp [hno, tl, hne, l1, pl, c1', f1, f2, gSetIx, p0, p1, hix, r1, nd', ixn]
theorem M_mutated {v : D} {ds : List Int} {k : Nat} (h : okV k v = true) (hk : k ≤ 11) (hn : nd v ≤ 500000) (hd : ds.length = 5) (h0 : ∀ x ∈ ds, 0 ≤ x) : ∃ d, M__law_mutated [v, .lst (ds.map .int)] = some d ∧ okV (k + 1) d = true ∧ nd d ≤ 2 * nd v + 20 := by
  have e1 : M__law_paths [v] = _ := R_paths 11 v (okV_le h hk) (by omega)
  have hc := paths_count v
  have hp := nd_pos v
  obtain ⟨t, ht, f1, f2⟩ := modN (ds := ds) (j := 4) (n := (pathsT v).length) h0 (by omega) (by omega) (by omega)
  have hix : gIdx (.lst ((pathsT v).map numD)) (.int (t : Nat)) = some (numD (pathsT v)[t]) := by
    rw [ix_nat (xs := (pathsT v).map numD) (by simpa using ht), List.getElem_map]
  obtain ⟨d, r1, r2, r3⟩ := R_change (ds := ds) (by omega) h0 11 v _ k h hk (List.getElem_mem ht) hn
  have hl : gLen (.lst ((pathsT v).map numD)) = some (.int ((pathsT v).length : Nat)) := by simp [lenL]
  have r1 : M__law_change_at [v, numD (pathsT v)[t], .lst (ds.map .int)] = some d := r1
  have hno := no_V h
  generalize (pathsT v).map numD = Z at *
  refine ⟨d, run_rt ?_, r2, r3⟩
  simp only [B__law_mutated]
  simp [hno, e1, hl, f1, f2, hix, r1]
/-! ### a value of any kind -/
theorem any_val : ∀ (n : Nat) (ds : List Int) (e : Nat), ds.length = 60 → (∀ x ∈ ds, 0 ≤ x) → e ≤ 4 → 4 < n + e → ∃ d, R__law_any_value n [.lst (ds.map .int), .int (e : Nat)] = some d ∧ okV (6 - e) d = true
  | 0, ds, e, _, _, h, h' => by omega
  | n + 1, ds, e, hl, h0, he, hn => by
    have i0 : gIdx (.lst (ds.map .int)) (.int (e : Int)) = some (.int (atZ ds e)) := ix_ints (by omega) (by omega)
    have i1 : gIdx (.lst (ds.map .int)) (.int ((e : Int) + 1)) = some (.int (atZ ds ((e : Int) + 1))) := ix_ints (by omega) (by omega)
    have i2 : gIdx (.lst (ds.map .int)) (.int ((e : Int) + 2)) = some (.int (atZ ds ((e : Int) + 2))) := ix_ints (by omega) (by omega)
    have i3 : gIdx (.lst (ds.map .int)) (.int ((e : Int) + 3)) = some (.int (atZ ds ((e : Int) + 3))) := ix_ints (by omega) (by omega)
    have i4 : gIdx (.lst (ds.map .int)) (.int ((e : Int) + 4)) = some (.int (atZ ds ((e : Int) + 4))) := ix_ints (by omega) (by omega)
    have p4 := h0 _ (atZ_mem (ns := ds) (i := (e : Int) + 4) (by omega) (by omega))
    have md : ∀ a b : Int, 0 < b → gMod (.int a) (.int b) = some (.int (a % b)) := fun a b hb => mod_int hb
    -- the number
    have hnum : ∀ a : Int, ∃ x : Int, gIdx (.lst [.int a, .int (0 - 1000000000000000000000000000000000000000), .int 1000000000000000000000000000000000000000]) (.int (atZ ds (e + 2) % 3)) = some (.int x) := fun a => by
      have : atZ ds (e + 2) % 3 = 0 ∨ atZ ds (e + 2) % 3 = 1 ∨ atZ ds (e + 2) % 3 = 2 := by omega
      rcases this with z | z | z <;> rw [z] <;> exact ⟨_, rfl⟩
    obtain ⟨x, hx⟩ := hnum (atZ ds (e + 1) % 12 - 2)
    have hx' := hx
    simp only [show (0 : Int) - 1000000000000000000000000000000000000000 = -1000000000000000000000000000000000000000 from rfl] at hx'
    generalize hA : atZ ds e % 12 = A at *
    have hA0 : 0 ≤ A ∧ A < 12 := by omega
    by_cases c1 : A < 4 ∨ (3 : Int) < (e : Int)
    · refine ⟨.int x, run_rt ?_, vI⟩
      simp only [B__law_any_value]
      rcases c1 with c1 | c1
      · simp (disch := omega) [i0, md, hA, i1, i2, gSub, pow39, hx', c1]
      · by_cases c2 : A < 4 <;> simp (disch := omega) [i0, md, hA, i1, i2, gSub, pow39, hx', c1, c2]
    · have c1a : ¬ A < 4 := fun z => c1 (.inl z)
      have c1b : ¬ (3 : Int) < (e : Int) := fun z => c1 (.inr z)
      by_cases c2 : A < 7
      · have : ∃ d, gIdx (.lst [.bl true, .bl false, .non]) (.int (A - 4)) = some d ∧ okV (6 - e) d = true := by
          have : A = 4 ∨ A = 5 ∨ A = 6 := by omega
          rcases this with z | z | z <;> rw [z]
          · exact ⟨_, rfl, vB⟩
          · exact ⟨_, rfl, vB⟩
          · exact ⟨_, rfl, vN⟩
        obtain ⟨d, d1, d2⟩ := this
        refine ⟨d, run_rt ?_, d2⟩
        simp only [B__law_any_value]
        simp (disch := omega) [i0, md, hA, i1, i2, gSub, pow39, hx', c1a, c1b, c2, d1]
      · by_cases c3 : A < 9
        · have : ∃ d, gIdx (.lst [.str "", .str "0", .str "a", .str "ax", .str "3", .str "none", .str "A", .str "~"]) (.int (atZ ds (e + 3) % 8)) = some (.str d) ∧ okV (6 - e) (.str d) = true := by
            have key : ∀ z : Str, (strOk z && decide (z.length ≤ 1000)) = true → okV (6 - e) (.str z) = true := fun z hz => vS.mpr (by simpa using hz)
            have : atZ ds (e + 3) % 8 = 0 ∨ atZ ds (e + 3) % 8 = 1 ∨ atZ ds (e + 3) % 8 = 2 ∨ atZ ds (e + 3) % 8 = 3 ∨ atZ ds (e + 3) % 8 = 4 ∨ atZ ds (e + 3) % 8 = 5 ∨ atZ ds (e + 3) % 8 = 6 ∨ atZ ds (e + 3) % 8 = 7 := by omega
            rcases this with z | z | z | z | z | z | z | z <;> rw [z] <;> exact ⟨_, rfl, key _ (by decide +kernel)⟩
          obtain ⟨d, d1, d2⟩ := this
          refine ⟨.str d, run_rt ?_, d2⟩
          simp only [B__law_any_value]
          simp (disch := omega) [i0, md, hA, i1, i2, i3, gSub, pow39, hx', c1a, c1b, c2, c3, d1]
        · have he3 : e ≤ 3 := by omega
          -- the parts
          have hrot : ∀ k : Nat, k < 4 → ∃ d, R__law_any_value n [.lst ((ds.drop k ++ ds.take k).map .int), .int ((e : Int) + 1)] = some d ∧ okV (5 - e) d = true := fun k hk => by
            have := any_val n (ds.drop k ++ ds.take k) (e + 1) (by simp; omega) (fun x hx => h0 x (by
              rcases List.mem_append.mp hx with h | h
              · exact List.mem_of_mem_drop h
              · exact List.mem_of_mem_take h)) (by omega) (by omega)
            rw [show 6 - (e + 1) = 5 - e by omega] at this
            exact this
          have hm : ∃ M : Nat, M < 4 ∧ atZ ds (e + 4) % 4 = (M : Nat) := ⟨(atZ ds (e + 4) % 4).toNat, by omega, by omega⟩
          obtain ⟨M, hM, hM2⟩ := hm
          have e6 : rng1 [.int (M : Nat)] = _ := rng1_eq (by omega)
          rw [Int.toNat_natCast] at e6
          let f : Nat → D := fun k => if hk : k < 4 then (hrot k hk).choose else .non
          have hf : ∀ k, k < 4 → R__law_any_value n [.lst ((ds.drop k ++ ds.take k).map .int), .int ((e : Int) + 1)] = some (f k) ∧ okV (5 - e) (f k) = true := fun k hk => by
            simp only [f, hk, dif_pos]
            exact (hrot k hk).choose_spec
          generalize f = f' at hf
          have hc : ∀ a : Option D, ∀ b : Option D, compGo (tName 5) cYes (fz (fCall 2 (R__law_any_value n) (fsCons (fz (b2 gAdd (fz (fSl (fVarW 0) (oSome (fVarW 5)) oNone)) (fz (fSl (fVarW 0) oNone (oSome (fVarW 5)))))) (fsCons (fz (b2 gAdd (fVarW 1) (fC (.int 1)))) fsNil)))) [some (.lst (ds.map .int)), some (.int (e : Nat)), a, b, none, none] ((List.range M).map fun k : Nat => .int (0 + (k : Nat))) = some ((List.range M).map f') := fun a b => by
            rw [compGo_typed (fun k : Nat => D.int (0 + (k : Nat))) (fun k => [some (.lst (ds.map .int)), some (.int (e : Nat)), a, b, none, some (.int (k : Nat))]) (fun _ => true) f' (List.range M) (fun k _ => by simp) (fun _ _ => rfl) (fun k hk _ => by
              have hk := List.mem_range.mp hk
              obtain ⟨g1, g2⟩ := hf k (by omega)
              have n1 := (no_V g2).2
              have a1 : gSl (.lst (ds.map .int)) (some (k : Int)) none = some (.opn ((ds.drop k).map .int)) := by
                simp only [gSl, cut_hi3 (xs := ds.map D.int) (k := k) (by simp; omega), List.map_drop]
              have a2 : gSl (.lst (ds.map .int)) none (some (k : Int)) = some (.opn ((ds.take k).map .int)) := by
                simp only [gSl, cut_lo3, List.map_take]
              have a3 : gAdd (.lst ((ds.drop k).map .int)) (.lst ((ds.take k).map .int)) = some (.opn ((ds.drop k ++ ds.take k).map .int)) := by
                have : small ((ds.drop k).length + (ds.take k).length) = true := small_le' (by simp; omega)
                simp only [gAdd, List.length_map, this, if_true, List.map_append]
              simp [a1, a2, a3, g1, n1, -List.map_drop, -List.map_take, -List.map_append])]
            rw [show (List.range M).filter (fun _ => true) = List.range M by simp]
          have hsm : small M = true := small_le' (by omega)
          have hok : ∀ d ∈ (List.range M).map f', okV (5 - e) d = true := fun d hd => by
            obtain ⟨k, hk, rfl⟩ := List.mem_map.mp hd
            exact (hf k (by have := List.mem_range.mp hk; omega)).2
          have e65 : 6 - e = (5 - e) + 1 := by omega
          generalize (List.range M).map f' = Z at *
          simp only [Int.zero_add] at e6 hc
          by_cases c4 : A = 9
          · refine ⟨.lst Z, run_rt ?_, by rw [e65]; exact vL.mpr hok⟩
            simp only [B__law_any_value]
            simp (disch := omega) [i0, md, hA, i1, i2, i4, hM2, gSub, pow39, hx', c1a, c1b, c2, c3, e6, hsm, wipeR, hc, c4]
          · refine ⟨.tup Z, run_rt ?_, by rw [e65]; exact vT.mpr hok⟩
            simp only [B__law_any_value]
            simp (disch := omega) [i0, md, hA, i1, i2, i4, hM2, gSub, pow39, hx', c1a, c1b, c2, c3, e6, hsm, wipeR, hc, c4]
end PL
/-! ### part Wa_k01 -/
namespace PLaw
open PySem PySem.Spec PyProof.Rows L2 PL
def topS (i : Nat) : Stmt := PySem.Challenge.pw_rerunpages_k01_item_document_and_numberi.main.body.getD i (.Pass ⟨0, 0, 0, 0⟩)
abbrev s_is_integer : Stmt := topS 2
theorem sc_is_integer : FnScope ["value", "low", "high"] ["value", "low", "high"] (defScope s_is_integer) := ⟨rfl, rfl, rfl, by decide +kernel, rfl, by decide +kernel, by decide +kernel⟩
abbrev s_is_name : Stmt := topS 3
theorem sc_is_name : FnScope ["value", "sign"] ["value"] (defScope s_is_name) := ⟨rfl, rfl, rfl, by decide +kernel, rfl, by decide +kernel, by decide +kernel⟩
abbrev s_mark_names : Stmt := topS 5
theorem sc_mark_names : FnScope ["items", "item"] ["items"] (defScope s_mark_names) := ⟨rfl, rfl, rfl, by decide +kernel, rfl, by decide +kernel, by decide +kernel⟩
abbrev s__law_cell : Stmt := topS 9
theorem sc__law_cell : FnScope ["script", "index"] ["script", "index"] (defScope s__law_cell) := ⟨rfl, rfl, rfl, by decide +kernel, rfl, by decide +kernel, by decide +kernel⟩
abbrev s__law_is_integer : Stmt := topS 11
theorem sc__law_is_integer : FnScope ["value", "low", "high"] ["value", "low", "high"] (defScope s__law_is_integer) := ⟨rfl, rfl, rfl, by decide +kernel, rfl, by decide +kernel, by decide +kernel⟩
abbrev s__law_same_bool : Stmt := topS 12
theorem sc__law_same_bool : FnScope ["result", "expected"] ["result", "expected"] (defScope s__law_same_bool) := ⟨rfl, rfl, rfl, by decide +kernel, rfl, by decide +kernel, by decide +kernel⟩
abbrev s__law_other_value : Stmt := topS 14
theorem sc__law_other_value : FnScope ["value", "digits", "options"] ["value", "digits"] (defScope s__law_other_value) := ⟨rfl, rfl, rfl, by decide +kernel, rfl, by decide +kernel, by decide +kernel⟩
abbrev s__law_moved_item : Stmt := topS 15
theorem sc__law_moved_item : FnScope ["items", "index", "digits", "target", "rest"] ["items", "index", "digits"] (defScope s__law_moved_item) := ⟨rfl, rfl, rfl, by decide +kernel, rfl, by decide +kernel, by decide +kernel⟩
abbrev s__law_document : Stmt := topS 19
theorem sc__law_document : FnScope ["digits", "most", "size", "names", "some", "name", "k", "digit", "many", "document", "at"] ["digits", "most"] (defScope s__law_document) := ⟨rfl, rfl, rfl, by decide +kernel, rfl, by decide +kernel, by decide +kernel⟩
abbrev s__law_start : Stmt := topS 20
theorem sc__law_start : FnScope ["digits", "document", "found", "item", "digit"] ["digits", "document"] (defScope s__law_start) := ⟨rfl, rfl, rfl, by decide +kernel, rfl, by decide +kernel, by decide +kernel⟩
abbrev s__law_written : Stmt := topS 24
theorem sc__law_written : FnScope ["items", "marks", "name", "values", "item"] [] (defScope s__law_written) := ⟨rfl, rfl, rfl, by decide +kernel, rfl, by decide +kernel, by decide +kernel⟩
abbrev s_is_item : Stmt := topS 4
theorem sc_is_item : FnScope ["value"] ["value"] (defScope s_is_item) := ⟨rfl, rfl, rfl, by decide +kernel, rfl, by decide +kernel, by decide +kernel⟩
abbrev s_is_numbering : Stmt := topS 7
theorem sc_is_numbering : FnScope ["document", "value", "number"] ["document", "value"] (defScope s_is_numbering) := ⟨rfl, rfl, rfl, by decide +kernel, rfl, by decide +kernel, by decide +kernel⟩
abbrev s__law_digits : Stmt := topS 10
theorem sc__law_digits : FnScope ["script", "index", "count", "base", "primes", "cell", "rest", "digits", "k", "mixed"] ["script", "index", "count", "base"] (defScope s__law_digits) := ⟨rfl, rfl, rfl, by decide +kernel, rfl, by decide +kernel, by decide +kernel⟩
abbrev s__law_is_item : Stmt := topS 21
theorem sc__law_is_item : FnScope ["value", "sign"] ["value"] (defScope s__law_is_item) := ⟨rfl, rfl, rfl, by decide +kernel, rfl, by decide +kernel, by decide +kernel⟩
abbrev s__law_is_numbering : Stmt := topS 23
theorem sc__law_is_numbering : FnScope ["document", "value", "item", "number"] ["document", "value"] (defScope s__law_is_numbering) := ⟨rfl, rfl, rfl, by decide +kernel, rfl, by decide +kernel, by decide +kernel⟩
abbrev s_is_document : Stmt := topS 6
theorem sc_is_document : FnScope ["value", "item", "names"] ["value"] (defScope s_is_document) := ⟨rfl, rfl, rfl, by decide +kernel, rfl, by decide +kernel, by decide +kernel⟩
abbrev s__law_is_document : Stmt := topS 22
theorem sc__law_is_document : FnScope ["value", "item", "names", "one", "other"] ["value"] (defScope s__law_is_document) := ⟨rfl, rfl, rfl, by decide +kernel, rfl, by decide +kernel, by decide +kernel⟩
abbrev s__law_paths : Stmt := topS 13
theorem sc__law_paths : FnScope ["value", "paths", "index", "part", "path"] ["value"] (defScope s__law_paths) := ⟨rfl, rfl, rfl, by decide +kernel, rfl, by decide +kernel, by decide +kernel⟩
abbrev s__law_any_value : Stmt := topS 18
theorem sc__law_any_value : FnScope ["digits", "depth", "choice", "number", "parts", "k"] ["digits", "depth"] (defScope s__law_any_value) := ⟨rfl, rfl, rfl, by decide +kernel, rfl, by decide +kernel, by decide +kernel⟩
abbrev s__law_change_at : Stmt := topS 16
theorem sc__law_change_at : FnScope ["value", "path", "digits", "items"] ["value", "path", "digits"] (defScope s__law_change_at) := ⟨rfl, rfl, rfl, by decide +kernel, rfl, by decide +kernel, by decide +kernel⟩
abbrev s__law_mutated : Stmt := topS 17
theorem sc__law_mutated : FnScope ["value", "digits", "paths"] ["value", "digits"] (defScope s__law_mutated) := ⟨rfl, rfl, rfl, by decide +kernel, rfl, by decide +kernel, by decide +kernel⟩
abbrev s_law : Stmt := topS 25
theorem sc_law : FnScope ["script", "index", "digits", "document", "size", "start", "values", "numbers", "k", "row", "mutated", "value"] ["script"] (defScope s_law) := ⟨rfl, rfl, rfl, by decide +kernel, rfl, by decide +kernel, by decide +kernel⟩
structure Tb (K : PySem.W.Frag) (mg : Str → Option Value) where
  a_is_integer : Addr
  d_is_integer : FuncData
  F_is_integer : Fun K "is_integer" "is_integer" s_is_integer a_is_integer d_is_integer
  g_is_integer : mg "is_integer" = some (.ref a_is_integer)
  b_is_integer : L2.Binds K d_is_integer ["value", "low", "high"] []
  a_is_name : Addr
  d_is_name : FuncData
  F_is_name : Fun K "is_name" "is_name" s_is_name a_is_name d_is_name
  g_is_name : mg "is_name" = some (.ref a_is_name)
  b_is_name : L2.Binds K d_is_name ["value"] []
  a_mark_names : Addr
  d_mark_names : FuncData
  F_mark_names : Fun K "mark_names" "mark_names" s_mark_names a_mark_names d_mark_names
  g_mark_names : mg "mark_names" = some (.ref a_mark_names)
  b_mark_names : L2.Binds K d_mark_names ["items"] []
  a__law_cell : Addr
  d__law_cell : FuncData
  F__law_cell : Fun K "_law_cell" "_law_cell" s__law_cell a__law_cell d__law_cell
  g__law_cell : mg "_law_cell" = some (.ref a__law_cell)
  b__law_cell : L2.Binds K d__law_cell ["script", "index"] []
  a__law_is_integer : Addr
  d__law_is_integer : FuncData
  F__law_is_integer : Fun K "_law_is_integer" "_law_is_integer" s__law_is_integer a__law_is_integer d__law_is_integer
  g__law_is_integer : mg "_law_is_integer" = some (.ref a__law_is_integer)
  b__law_is_integer : L2.Binds K d__law_is_integer ["value", "low", "high"] []
  a__law_same_bool : Addr
  d__law_same_bool : FuncData
  F__law_same_bool : Fun K "_law_same_bool" "_law_same_bool" s__law_same_bool a__law_same_bool d__law_same_bool
  g__law_same_bool : mg "_law_same_bool" = some (.ref a__law_same_bool)
  b__law_same_bool : L2.Binds K d__law_same_bool ["result", "expected"] []
  a__law_other_value : Addr
  d__law_other_value : FuncData
  F__law_other_value : Fun K "_law_other_value" "_law_other_value" s__law_other_value a__law_other_value d__law_other_value
  g__law_other_value : mg "_law_other_value" = some (.ref a__law_other_value)
  b__law_other_value : L2.Binds K d__law_other_value ["value", "digits"] []
  a__law_moved_item : Addr
  d__law_moved_item : FuncData
  F__law_moved_item : Fun K "_law_moved_item" "_law_moved_item" s__law_moved_item a__law_moved_item d__law_moved_item
  g__law_moved_item : mg "_law_moved_item" = some (.ref a__law_moved_item)
  b__law_moved_item : L2.Binds K d__law_moved_item ["items", "index", "digits"] []
  a__law_document : Addr
  d__law_document : FuncData
  F__law_document : Fun K "_law_document" "_law_document" s__law_document a__law_document d__law_document
  g__law_document : mg "_law_document" = some (.ref a__law_document)
  b__law_document : L2.Binds K d__law_document ["digits", "most"] []
  a__law_start : Addr
  d__law_start : FuncData
  F__law_start : Fun K "_law_start" "_law_start" s__law_start a__law_start d__law_start
  g__law_start : mg "_law_start" = some (.ref a__law_start)
  b__law_start : L2.Binds K d__law_start ["digits", "document"] []
  a__law_written : Addr
  d__law_written : FuncData
  F__law_written : Fun K "_law_written" "_law_written" s__law_written a__law_written d__law_written
  g__law_written : mg "_law_written" = some (.ref a__law_written)
  b__law_written : L2.Binds K d__law_written [] []
  a_is_item : Addr
  d_is_item : FuncData
  F_is_item : Fun K "is_item" "is_item" s_is_item a_is_item d_is_item
  g_is_item : mg "is_item" = some (.ref a_is_item)
  b_is_item : L2.Binds K d_is_item ["value"] []
  a_is_numbering : Addr
  d_is_numbering : FuncData
  F_is_numbering : Fun K "is_numbering" "is_numbering" s_is_numbering a_is_numbering d_is_numbering
  g_is_numbering : mg "is_numbering" = some (.ref a_is_numbering)
  b_is_numbering : L2.Binds K d_is_numbering ["document", "value"] []
  a__law_digits : Addr
  d__law_digits : FuncData
  F__law_digits : Fun K "_law_digits" "_law_digits" s__law_digits a__law_digits d__law_digits
  g__law_digits : mg "_law_digits" = some (.ref a__law_digits)
  b__law_digits : L2.Binds K d__law_digits ["script", "index", "count", "base"] []
  a__law_is_item : Addr
  d__law_is_item : FuncData
  F__law_is_item : Fun K "_law_is_item" "_law_is_item" s__law_is_item a__law_is_item d__law_is_item
  g__law_is_item : mg "_law_is_item" = some (.ref a__law_is_item)
  b__law_is_item : L2.Binds K d__law_is_item ["value"] []
  a__law_is_numbering : Addr
  d__law_is_numbering : FuncData
  F__law_is_numbering : Fun K "_law_is_numbering" "_law_is_numbering" s__law_is_numbering a__law_is_numbering d__law_is_numbering
  g__law_is_numbering : mg "_law_is_numbering" = some (.ref a__law_is_numbering)
  b__law_is_numbering : L2.Binds K d__law_is_numbering ["document", "value"] []
  a_is_document : Addr
  d_is_document : FuncData
  F_is_document : Fun K "is_document" "is_document" s_is_document a_is_document d_is_document
  g_is_document : mg "is_document" = some (.ref a_is_document)
  b_is_document : L2.Binds K d_is_document ["value"] []
  a__law_is_document : Addr
  d__law_is_document : FuncData
  F__law_is_document : Fun K "_law_is_document" "_law_is_document" s__law_is_document a__law_is_document d__law_is_document
  g__law_is_document : mg "_law_is_document" = some (.ref a__law_is_document)
  b__law_is_document : L2.Binds K d__law_is_document ["value"] []
  a__law_paths : Addr
  d__law_paths : FuncData
  F__law_paths : Fun K "_law_paths" "_law_paths" s__law_paths a__law_paths d__law_paths
  g__law_paths : mg "_law_paths" = some (.ref a__law_paths)
  b__law_paths : L2.Binds K d__law_paths ["value"] []
  a__law_any_value : Addr
  d__law_any_value : FuncData
  F__law_any_value : Fun K "_law_any_value" "_law_any_value" s__law_any_value a__law_any_value d__law_any_value
  g__law_any_value : mg "_law_any_value" = some (.ref a__law_any_value)
  b__law_any_value : L2.Binds K d__law_any_value ["digits", "depth"] []
  a__law_change_at : Addr
  d__law_change_at : FuncData
  F__law_change_at : Fun K "_law_change_at" "_law_change_at" s__law_change_at a__law_change_at d__law_change_at
  g__law_change_at : mg "_law_change_at" = some (.ref a__law_change_at)
  b__law_change_at : L2.Binds K d__law_change_at ["value", "path", "digits"] []
  a__law_mutated : Addr
  d__law_mutated : FuncData
  F__law_mutated : Fun K "_law_mutated" "_law_mutated" s__law_mutated a__law_mutated d__law_mutated
  g__law_mutated : mg "_law_mutated" = some (.ref a__law_mutated)
  b__law_mutated : L2.Binds K d__law_mutated ["value", "digits"] []
  a_law : Addr
  d_law : FuncData
  F_law : Fun K "law" "law" s_law a_law d_law
  g_law : mg "law" = some (.ref a_law)
  b_law : L2.Binds K d_law ["script"] []
  n_all : mg "all" = none
  n_bool : mg "bool" = none
  n_enumerate : mg "enumerate" = none
  n_int : mg "int" = none
  n_isinstance : mg "isinstance" = none
  n_len : mg "len" = none
  n_list : mg "list" = none
  n_range : mg "range" = none
  n_set : mg "set" = none
  n_sorted : mg "sorted" = none
  n_str : mg "str" = none
  n_tuple : mg "tuple" = none
  n_zip : mg "zip" = none
  t_LETTERS : Tok
  c_LETTERS : mg "LETTERS" = some (.str "abcdefghijklmnopqrstuvwxyz" t_LETTERS)
section
variable {P : Program} {w : World} {K : PySem.W.Frag} {mg : Str → Option Value} {base : Heap}
theorem ok_is_integer (T : Tb K mg) : FnOk P w K mg base CX0 1 T.a_is_integer T.d_is_integer ["value", "low", "high"] (spP 3 K M_is_integer) :=
  fn_pure T.F_is_integer sc_is_integer rfl (fun cdv A outer s H E hr => have hu := room65 hr
  (ses_cons (se_ret (me_of_fe (fe_and (fe_isi (by rfl) T.n_isinstance (by rfl) T.n_int (by decide +kernel) (wv 0)) (fe_and (fe_not (fe_isi (by rfl) T.n_isinstance (by rfl) T.n_bool (by decide +kernel) (wv 0))) (fe_one (fe_chain c_le c_le (wv 1) (wv 0) (wv 2)))))))
  ses_nil))
theorem ok_is_name (T : Tb K mg) : FnOk P w K mg base CX0 1 T.a_is_name T.d_is_name ["value"] (spP 1 K M_is_name) :=
  fn_pure T.F_is_name sc_is_name rfl (fun cdv A outer s H E hr => have hu := room65 hr
  (ses_cons (se_ret (me_of_fe (fe_and (fe_isi (by rfl) T.n_isinstance (by rfl) T.n_str (by decide +kernel) (wv 0)) (fe_and (fe_chain c_le c_le (we_of_fe fe_int) (we_of_fe (fe_len (by rfl) T.n_len (wv 0))) (we_of_fe fe_int)) (fe_one (fe_all rfl (by rfl) T.n_all (we_of_me (me_lc rfl sc_is_name.nd (ie_seq (fv 0)) (blkOk_by (own := [("sign", 1)]) (N := ["value", "sign"]) (sc := defScope s_is_name) (by decide +kernel)) (fun _ _ _ _ _ => (gb 1 sc_is_name.nd)) (fun _ _ _ _ _ => ifs_nil) (fun _ _ _ _ _ => (fe_cmp (c_in hu) (wv 1) (we_of_fe (fe_globS (by rfl) T.c_LETTERS)) (by rfl)))))))))))
  ses_nil))
theorem ok_mark_names (T : Tb K mg) : FnOk P w K mg base CX0 1 T.a_mark_names T.d_mark_names ["items"] (spP 1 K M_mark_names) :=
  fn_pure T.F_mark_names sc_mark_names rfl (fun cdv A outer s H E hr => have hu := room65 hr
  (ses_cons (se_ret (me_lc rfl sc_mark_names.nd (ie_seq (fv 0)) (blkOk_by (own := [("item", 1)]) (N := ["items", "item"]) (sc := defScope s_mark_names) (by decide +kernel)) (fun _ _ _ _ _ => (gb 1 sc_mark_names.nd)) (fun _ _ _ _ _ => (ifs_one (be_cmp (c_eq hu) (we_of_fe (fe_idx (wv 1) (we_of_fe fe_int))) (we_of_fe fe_str) (nomark _)))) (fun _ _ _ _ _ => (fe_idx (wv 1) (we_of_fe fe_int)))))
  ses_nil))
theorem ok__law_cell (T : Tb K mg) : FnOk P w K mg base CX0 1 T.a__law_cell T.d__law_cell ["script", "index"] (spP 2 K M__law_cell) :=
  fn_pure T.F__law_cell sc__law_cell rfl (fun cdv A outer s H E hr => have hu := room65 hr
  (ses_cons (se_if (be_cmp c_lt (wv 1) (we_of_fe (fe_len (by rfl) T.n_len (wv 0))) (nomark _)) (ses_cons (se_ret (me_of_fe (fe_idx (wv 0) (wv 1))))
  ses_nil) ses_nil)
  (ses_cons (se_if (be_cmp (c_eq hu) (we_of_fe (fe_len (by rfl) T.n_len (wv 0))) (we_of_fe fe_int) (nomark _)) (ses_cons (se_ret (me_add (we_of_me (me_mul (we_of_fe fe_int) (wv 1))) (we_of_fe fe_int)))
  ses_nil) ses_nil)
  (ses_cons (se_ret (me_add (we_of_fe (fe_mod (we_of_fe (fe_idx (wv 0) (we_of_fe (fe_mod (wv 1) (we_of_fe (fe_len (by rfl) T.n_len (wv 0))))))) (we_of_fe fe_int))) (we_of_me (me_mul (we_of_fe fe_int) (wv 1)))))
  ses_nil))))
theorem ok__law_is_integer (T : Tb K mg) : FnOk P w K mg base CX0 1 T.a__law_is_integer T.d__law_is_integer ["value", "low", "high"] (spP 3 K M__law_is_integer) :=
  fn_pure T.F__law_is_integer sc__law_is_integer rfl (fun cdv A outer s H E hr => have hu := room65 hr
  (ses_cons (se_ret (me_of_fe (fe_and (fe_isi (by rfl) T.n_isinstance (by rfl) T.n_int (by decide +kernel) (wv 0)) (fe_and (fe_not (fe_isi (by rfl) T.n_isinstance (by rfl) T.n_bool (by decide +kernel) (wv 0))) (fe_one (fe_chain c_le c_le (wv 1) (wv 0) (wv 2)))))))
  ses_nil))
theorem ok__law_same_bool (T : Tb K mg) : FnOk P w K mg base CX0 1 T.a__law_same_bool T.d__law_same_bool ["result", "expected"] (spP 2 K M__law_same_bool) :=
  fn_pure T.F__law_same_bool sc__law_same_bool rfl (fun cdv A outer s H E hr => have hu := room65 hr
  (ses_cons (se_ret (me_of_fe (fe_and (fe_isi (by rfl) T.n_isinstance (by rfl) T.n_bool (by decide +kernel) (wv 0)) (fe_one (fe_cmp (c_eq hu) (wv 0) (wv 1) (nomark _))))))
  ses_nil))
theorem ok__law_other_value (T : Tb K mg) : FnOk P w K mg base CX0 1 T.a__law_other_value T.d__law_other_value ["value", "digits"] (spP 2 K M__law_other_value) :=
  fn_pure T.F__law_other_value sc__law_other_value rfl (fun cdv A outer s H E hr => have hu := room65 hr
  (ses_cons (ss 2 sc__law_other_value.nd (me_of_fe (fe_of_me (me_lst (ae_cons fe_non (ae_cons fe_bl (ae_cons fe_bl (ae_cons fe_int (ae_cons (fe_sub (we_of_fe fe_int) (we_of_fe fe_int)) (ae_cons (fe_pow (we_of_fe fe_int) (we_of_fe fe_int)) (ae_cons fe_str (ae_cons fe_str (ae_cons (fe_tup ae_nil) (ae_cons (fe_of_me (me_lst ae_nil)) (ae_cons (fe_tup (ae_cons (fv 0) ae_nil)) (ae_cons (fe_of_me (me_lst (ae_cons (fv 0) ae_nil))) (ae_cons (fe_tup (ae_cons fe_int ae_nil)) (ae_cons (fe_tup (ae_cons fe_int (ae_cons fe_int ae_nil))) (ae_cons fe_int (ae_cons fe_int ae_nil))))))))))))))))))))
  (ses_cons (se_if (be_w (bw_and (be_val (fe_isi (by rfl) T.n_isinstance (by rfl) T.n_int (by decide +kernel) (wv 0))) (bw_and1 (be_not (be_val (fe_isi (by rfl) T.n_isinstance (by rfl) T.n_bool (by decide +kernel) (wv 0))))))) (ses_cons (ss 2 sc__law_other_value.nd (me_of_fe (fe_of_me (me_add (we_of_me (me_lst (ae_cons (fe_of_me (me_add (wv 0) (we_of_fe fe_int))) (ae_cons (fe_sub (wv 0) (we_of_fe fe_int)) (ae_cons (fe_bool1 (by rfl) T.n_bool (wv 0)) (ae_cons (fe_of_me (me_add (wv 0) (we_of_fe fe_int))) (ae_cons (fe_sub (wv 0) (we_of_fe fe_int)) (ae_cons (fe_bool1 (by rfl) T.n_bool (wv 0)) ae_nil)))))))) (wv 2)))))
  ses_nil) ses_nil)
  (ses_cons (se_if (be_val (fe_isi2 (by rfl) T.n_isinstance (by rfl) T.n_list (by decide +kernel) (by rfl) T.n_tuple (by decide +kernel) (wv 0))) (ses_cons (ss 2 sc__law_other_value.nd (me_of_fe (fe_of_me (me_add (we_of_me (me_lst (ae_cons (fe_of_me (me_list (by rfl) T.n_list (wv 0))) (ae_cons (fe_tuple (by rfl) T.n_tuple (wv 0)) (ae_cons (fe_tuple (by rfl) T.n_tuple (we_of_me (me_rev (wv 0)))) (ae_cons (fe_of_me (me_list (by rfl) T.n_list (wv 0))) ae_nil)))))) (wv 2)))))
  ses_nil) ses_nil)
  (ses_cons (se_ret (me_of_fe (fe_idx (wv 2) (we_of_fe (fe_mod (we_of_fe (fe_idx (wv 1) (we_of_fe fe_int))) (we_of_fe (fe_len (by rfl) T.n_len (wv 2))))))))
  ses_nil)))))
theorem ok__law_moved_item (T : Tb K mg) : FnOk P w K mg base CX0 1 T.a__law_moved_item T.d__law_moved_item ["items", "index", "digits"] (spP 3 K M__law_moved_item) :=
  fn_pure T.F__law_moved_item sc__law_moved_item rfl (fun cdv A outer s H E hr => have hu := room65 hr
  (ses_cons (ss 3 sc__law_moved_item.nd (me_of_fe (fe_mod (we_of_fe (fe_idx (wv 2) (we_of_fe fe_int))) (we_of_fe (fe_len (by rfl) T.n_len (wv 0))))))
  (ses_cons (se_if (be_cmp (c_eq hu) (we_of_fe (fe_mod (we_of_fe (fe_idx (wv 2) (we_of_fe fe_int))) (we_of_fe fe_int))) (we_of_fe fe_int) (nomark _)) (ses_cons (se_ret (me_add (we_of_me (me_sl (wv 0) oe_none (oe_some (wv 1)))) (we_of_me (me_sl (wv 0) (oe_some (we_of_me (me_add (wv 1) (we_of_fe fe_int)))) oe_none))))
  ses_nil) ses_nil)
  (ses_cons (se_if (be_cmp (c_eq hu) (we_of_fe (fe_mod (we_of_fe (fe_idx (wv 2) (we_of_fe fe_int))) (we_of_fe fe_int))) (we_of_fe fe_int) (nomark _)) (ses_cons (se_ret (me_add (we_of_me (me_add (we_of_me (me_sl (wv 0) oe_none (oe_some (wv 3)))) (we_of_me (me_lst (ae_cons (fe_idx (wv 0) (wv 1)) ae_nil))))) (we_of_me (me_sl (wv 0) (oe_some (wv 3)) oe_none))))
  ses_nil) ses_nil)
  (ses_cons (ss 4 sc__law_moved_item.nd (me_of_fe (fe_of_me (me_add (we_of_me (me_sl (wv 0) oe_none (oe_some (wv 1)))) (we_of_me (me_sl (wv 0) (oe_some (we_of_me (me_add (wv 1) (we_of_fe fe_int)))) oe_none))))))
  (ses_cons (se_ret (me_add (we_of_me (me_add (we_of_me (me_sl (wv 4) oe_none (oe_some (wv 3)))) (we_of_me (me_lst (ae_cons (fe_idx (wv 0) (wv 1)) ae_nil))))) (we_of_me (me_sl (wv 4) (oe_some (wv 3)) oe_none))))
  ses_nil))))))
theorem ok__law_document (T : Tb K mg) : FnOk P w K mg base CX0 1 T.a__law_document T.d__law_document ["digits", "most"] (spP 2 K M__law_document) :=
  fn_pure T.F__law_document sc__law_document rfl (fun cdv A outer s H E hr => have hu := room65 hr
  (ses_cons (ss 2 sc__law_document.nd (me_of_fe (fe_idx (we_of_me (me_lst (ae_cons fe_int (ae_cons fe_int (ae_cons fe_int (ae_cons fe_int ae_nil)))))) (we_of_fe (fe_mod (we_of_fe (fe_idx (wv 0) (we_of_fe fe_int))) (we_of_fe fe_int))))))
  (ses_cons (ss 3 sc__law_document.nd (me_of_fe (fe_of_me (me_sl (we_of_me (me_lst (ae_cons fe_str (ae_cons fe_str (ae_cons fe_str (ae_cons fe_str (ae_cons fe_str (ae_cons fe_str (ae_cons fe_str (ae_cons fe_str ae_nil)))))))))) oe_none (oe_some (we_of_me (me_add (we_of_fe fe_int) (we_of_fe (fe_mod (we_of_fe (fe_idx (wv 0) (we_of_fe fe_int))) (wv 1))))))))))
  (ses_cons (se_setLc 4 rfl sc__law_document.nd rfl rfl (sw_true rfl rfl rfl (by decide +kernel)) (ie_seq (fv 3)) (blkOk_by (own := [("name", 5)]) (N := ["digits", "most", "size", "names", "some", "name", "k", "digit", "many", "document", "at"]) (sc := defScope s__law_document) (by decide +kernel)) (fun _ _ _ _ _ => (gb 5 sc__law_document.nd)) (fun _ _ _ _ _ => ifs_nil) (fun _ _ _ _ _ => (fe_tup (ae_cons fe_str (ae_cons (fv 5) ae_nil)))))
  (ses_cons (se_for PassesOwn.never rfl (ie_range1 (by rfl) T.n_range (ae_cons (fe_mod (we_of_fe (fe_idx (wv 0) (we_of_fe fe_int))) (we_of_fe fe_int)) ae_nil)) (gn 6 sc__law_document.nd) (ses_cons (se_app 4 (by rfl) (vis_of (by rfl)) (fe_tup (ae_cons fe_str (ae_cons (fe_idx (wv 3) (we_of_fe (fe_mod (we_of_fe (fe_idx (wv 0) (we_of_me (me_add (we_of_fe fe_int) (wv 6))))) (we_of_fe (fe_len (by rfl) T.n_len (wv 3)))))) ae_nil))))
  ses_nil))
  (ses_cons (se_for PassesOwn.never rfl (ie_range1 (by rfl) T.n_range (ae_cons (fe_mod (we_of_fe (fe_idx (wv 0) (we_of_fe fe_int))) (we_of_fe fe_int)) ae_nil)) (gn 6 sc__law_document.nd) (ses_cons (ss 7 sc__law_document.nd (me_of_fe (fe_idx (wv 0) (we_of_me (me_add (we_of_fe fe_int) (wv 6))))))
  (ses_cons (ss 8 sc__law_document.nd (me_of_fe (fe_of_me (me_lst (ae_cons (fe_mod (wv 7) (we_of_fe fe_int)) (ae_cons (fv 2) (ae_cons (fe_of_me (me_add (we_of_me (me_mul (wv 2) (we_of_fe fe_int))) (we_of_fe (fe_mod (wv 7) (we_of_me (me_add (wv 2) (we_of_fe fe_int))))))) (ae_cons (fe_of_me (me_add (we_of_me (me_mul (wv 2) (we_of_fe fe_int))) (we_of_fe (fe_mod (wv 7) (we_of_me (me_add (wv 2) (we_of_fe fe_int))))))) (ae_cons (fe_mod (wv 7) (we_of_me (me_mul (we_of_fe fe_int) (wv 2)))) ae_nil)))))))))
  (ses_cons (se_app 4 (by rfl) (vis_of (by rfl)) (fe_tup (ae_cons fe_str (ae_cons (fe_idx (wv 8) (we_of_fe (fe_mod (we_of_fe (fe_fdiv (wv 7) (we_of_fe fe_int))) (we_of_fe fe_int)))) ae_nil))))
  ses_nil))))
  (ses_cons (ss 4 sc__law_document.nd (me_add (wv 4) (we_of_me (me_mul (we_of_me (me_lst (ae_cons (fe_tup (ae_cons fe_str ae_nil)) ae_nil))) (we_of_fe (fe_mod (we_of_fe (fe_fdiv (we_of_fe (fe_idx (wv 0) (we_of_fe fe_int))) (we_of_fe fe_int))) (we_of_fe fe_int)))))))
  (ses_cons (ss 9 sc__law_document.nd (me_of_fe (fe_tup ae_nil)))
  (ses_cons (se_while PassesOwn.never (be_cmp (c_ne hu) (wv 4) (we_of_me (me_lst ae_nil)) (nomark _)) (ses_cons (ss 10 sc__law_document.nd (me_of_fe (fe_mod (we_of_fe (fe_idx (wv 0) (we_of_me (me_add (we_of_fe fe_int) (we_of_fe (fe_len (by rfl) T.n_len (wv 9))))))) (we_of_fe (fe_len (by rfl) T.n_len (wv 4))))))
  (ses_cons (ss 9 sc__law_document.nd (me_of_fe (fe_of_me (me_add (wv 9) (we_of_fe (fe_tup (ae_cons (fe_idx (wv 4) (wv 10)) ae_nil)))))))
  (ses_cons (ss 4 sc__law_document.nd (me_add (we_of_me (me_sl (wv 4) oe_none (oe_some (wv 10)))) (we_of_me (me_sl (wv 4) (oe_some (we_of_me (me_add (wv 10) (we_of_fe fe_int)))) oe_none))))
  ses_nil))))
  (ses_cons (se_ret (me_of_fe (fe_tup (ae_cons (fv 9) (ae_cons (fv 2) ae_nil)))))
  ses_nil))))))))))
theorem ok__law_start (T : Tb K mg) : FnOk P w K mg base CX0 1 T.a__law_start T.d__law_start ["digits", "document"] (spP 2 K M__law_start) :=
  fn_pure T.F__law_start sc__law_start rfl (fun cdv A outer s H E hr => have hu := room65 hr
  (ses_cons (ss 2 sc__law_start.nd (me_of_fe (fe_tup ae_nil)))
  (ses_cons (se_for PassesOwn.never rfl (ie_seq (fv 1)) (gn 3 sc__law_start.nd) (ses_cons (se_if (be_cmp (c_eq hu) (we_of_fe (fe_idx (wv 3) (we_of_fe fe_int))) (we_of_fe fe_str) (nomark _)) (ses_cons (ss 4 sc__law_start.nd (me_of_fe (fe_idx (wv 0) (we_of_fe (fe_len (by rfl) T.n_len (wv 2))))))
  (ses_cons (ss 2 sc__law_start.nd (me_of_fe (fe_of_me (me_add (wv 2) (we_of_fe (fe_tup (ae_cons (fe_idx (we_of_me (me_lst (ae_cons fe_int (ae_cons fe_int (ae_cons fe_int (ae_cons fe_int (ae_cons fe_int (ae_cons (fe_of_me (me_add (we_of_fe fe_int) (wv 4))) (ae_cons (fe_pow (we_of_fe fe_int) (we_of_fe fe_int)) ae_nil))))))))) (we_of_fe (fe_mod (wv 4) (we_of_fe fe_int)))) ae_nil)))))))
  ses_nil)) ses_nil)
  ses_nil))
  (ses_cons (se_ret (me_of_fe (fv 2)))
  ses_nil))))
theorem ok__law_written (T : Tb K mg) : FnOk P w K mg base CX0 1 T.a__law_written T.d__law_written [] (spP 0 K M__law_written) :=
  fn_pure T.F__law_written sc__law_written rfl (fun cdv A outer s H E hr => have hu := room65 hr
  (ses_cons (ss 0 sc__law_written.nd (me_of_fe (fe_of_me (me_lst (ae_cons (fe_tup (ae_cons fe_str (ae_cons fe_int ae_nil))) (ae_cons (fe_tup (ae_cons fe_str (ae_cons fe_int ae_nil))) (ae_cons (fe_tup (ae_cons fe_str (ae_cons fe_int ae_nil))) (ae_cons (fe_tup (ae_cons fe_str (ae_cons (fe_sub (we_of_fe fe_int) (we_of_fe fe_int)) ae_nil))) (ae_cons (fe_tup (ae_cons fe_str (ae_cons fe_bl ae_nil))) (ae_cons (fe_tup (ae_cons fe_str (ae_cons fe_str ae_nil))) ae_nil))))))))))
  (ses_cons (ss 0 sc__law_written.nd (me_of_fe (fe_of_me (me_add (wv 0) (we_of_me (me_lst (ae_cons (fe_tup (ae_cons fe_str (ae_cons fe_str ae_nil))) (ae_cons (fe_tup (ae_cons fe_str (ae_cons fe_str ae_nil))) (ae_cons (fe_tup (ae_cons fe_str (ae_cons fe_str ae_nil))) (ae_cons (fe_tup (ae_cons fe_str (ae_cons fe_str ae_nil))) (ae_cons (fe_tup (ae_cons fe_str (ae_cons fe_str ae_nil))) ae_nil)))))))))))
  (ses_cons (ss 0 sc__law_written.nd (me_of_fe (fe_of_me (me_add (wv 0) (we_of_me (me_lst (ae_cons (fe_tup (ae_cons fe_str (ae_cons fe_str ae_nil))) (ae_cons (fe_tup (ae_cons fe_str ae_nil)) (ae_cons (fe_tup (ae_cons fe_str (ae_cons fe_int ae_nil))) (ae_cons (fe_tup (ae_cons fe_str (ae_cons fe_int ae_nil))) (ae_cons (fe_of_me (me_lst (ae_cons fe_str (ae_cons fe_int ae_nil)))) (ae_cons (fe_tup (ae_cons fe_str (ae_cons fe_int (ae_cons fe_int ae_nil)))) (ae_cons (fe_tup ae_nil) ae_nil)))))))))))))
  (ses_cons (ss 0 sc__law_written.nd (me_of_fe (fe_of_me (me_add (wv 0) (we_of_me (me_lst (ae_cons (fe_tup (ae_cons fe_str ae_nil)) (ae_cons (fe_tup (ae_cons fe_str (ae_cons fe_int ae_nil))) (ae_cons fe_non (ae_cons fe_str (ae_cons fe_int ae_nil)))))))))))
  (ses_cons (ss 1 sc__law_written.nd (me_of_fe (fe_tuple (by rfl) T.n_tuple (we_of_me (me_lc rfl sc__law_written.nd (ie_seq (fe_tup (ae_cons fe_str (ae_cons fe_str (ae_cons fe_str (ae_cons fe_str (ae_cons fe_str (ae_cons fe_str (ae_cons fe_str (ae_cons fe_str (ae_cons fe_str ae_nil))))))))))) (blkOk_by (own := [("name", 2)]) (N := ["items", "marks", "name", "values", "item"]) (sc := defScope s__law_written) (by decide +kernel)) (fun _ _ _ _ _ => (gb 2 sc__law_written.nd)) (fun _ _ _ _ _ => ifs_nil) (fun _ _ _ _ _ => (fe_tup (ae_cons fe_str (ae_cons (fv 2) ae_nil)))))))))
  (ses_cons (ss 3 sc__law_written.nd (me_of_fe (fe_of_me (me_lst (ae_cons (fe_of_me (me_sl (wv 1) oe_none (oe_some (we_of_fe fe_int)))) (ae_cons (fv 1) (ae_cons (fe_of_me (me_mul (we_of_fe (fe_tup (ae_cons (fe_tup (ae_cons fe_str ae_nil)) ae_nil))) (we_of_fe fe_int))) (ae_cons (fe_of_me (me_mul (we_of_fe (fe_tup (ae_cons (fe_tup (ae_cons fe_str ae_nil)) ae_nil))) (we_of_fe fe_int))) (ae_cons (fe_tup ae_nil) (ae_cons (fe_of_me (me_lst (ae_cons (fe_tup (ae_cons fe_str ae_nil)) ae_nil))) (ae_cons (fe_tup (ae_cons (fe_tup (ae_cons fe_str (ae_cons fe_str ae_nil))) (ae_cons (fe_tup (ae_cons fe_str (ae_cons fe_str ae_nil))) ae_nil))) ae_nil)))))))))))
  (ses_cons (ss 3 sc__law_written.nd (me_of_fe (fe_of_me (me_add (wv 3) (we_of_me (me_lst (ae_cons (fe_tup (ae_cons (fe_tup (ae_cons fe_str (ae_cons fe_str ae_nil))) (ae_cons (fe_tup (ae_cons fe_str (ae_cons fe_str ae_nil))) ae_nil))) (ae_cons (fe_tup (ae_cons (fe_tup (ae_cons fe_str (ae_cons fe_str ae_nil))) (ae_cons (fe_tup (ae_cons fe_str (ae_cons fe_str ae_nil))) ae_nil))) (ae_cons (fe_tup (ae_cons fe_str ae_nil)) (ae_cons (fe_tup (ae_cons (fe_tup (ae_cons fe_str ae_nil)) (ae_cons fe_non ae_nil))) ae_nil))))))))))
  (ses_cons (se_ret (me_add (we_of_me (me_add (wv 3) (wv 0))) (we_of_me (me_lc rfl sc__law_written.nd (ie_seq (fv 0)) (blkOk_by (own := [("item", 4)]) (N := ["items", "marks", "name", "values", "item"]) (sc := defScope s__law_written) (by decide +kernel)) (fun _ _ _ _ _ => (gb 4 sc__law_written.nd)) (fun _ _ _ _ _ => ifs_nil) (fun _ _ _ _ _ => (fe_tup (ae_cons (fv 4) ae_nil)))))))
  ses_nil)))))))))
theorem ok_is_item (T : Tb K mg) : FnOk P w K mg base CX0 2 T.a_is_item T.d_is_item ["value"] (spP 1 K M_is_item) :=
  fn_pure T.F_is_item sc_is_item rfl (fun cdv A outer s H E hr => have hu := room65 hr
  (ses_cons (se_if (be_w (bw_or (be_not (be_val (fe_isi (by rfl) T.n_isinstance (by rfl) T.n_tuple (by decide +kernel) (wv 0)))) (bw_or (be_not (be_chain c_le c_le (we_of_fe fe_int) (we_of_fe (fe_len (by rfl) T.n_len (wv 0))) (we_of_fe fe_int))) (bw_or1 (be_not (be_val (fe_isi (by rfl) T.n_isinstance (by rfl) T.n_str (by decide +kernel) (we_of_fe (fe_idx (wv 0) (we_of_fe fe_int)))))))))) (ses_cons (se_ret (me_of_fe fe_bl))
  ses_nil) ses_nil)
  (ses_cons (se_if (be_cmp (c_eq hu) (we_of_fe (fe_len (by rfl) T.n_len (wv 0))) (we_of_fe fe_int) (nomark _)) (ses_cons (se_ret (me_of_fe (fe_cmp (c_eq hu) (we_of_fe (fe_idx (wv 0) (we_of_fe fe_int))) (we_of_fe fe_str) (nomark _))))
  ses_nil) ses_nil)
  (ses_cons (se_if (be_cmp (c_eq hu) (we_of_fe (fe_idx (wv 0) (we_of_fe fe_int))) (we_of_fe fe_str) (nomark _)) (ses_cons (se_ret (me_call (ok_is_integer T) (hr.mono (by decide : 1 ≤ 1)) (by rfl) T.g_is_integer T.F_is_integer.kp T.b_is_integer (ae_cons (fe_idx (wv 0) (we_of_fe fe_int)) (ae_cons fe_int (ae_cons fe_int ae_nil)))))
  ses_nil) ses_nil)
  (ses_cons (se_ret (me_of_fe (fe_and (fe_cmp (c_in hu) (we_of_fe (fe_idx (wv 0) (we_of_fe fe_int))) (we_of_fe (fe_tup (ae_cons fe_str (ae_cons fe_str ae_nil)))) (by rfl)) (fe_one (fe_of_me (me_call (ok_is_name T) (hr.mono (by decide : 1 ≤ 1)) (by rfl) T.g_is_name T.F_is_name.kp T.b_is_name (ae_cons (fe_idx (wv 0) (we_of_fe fe_int)) ae_nil)))))))
  ses_nil)))))
theorem ok_is_numbering (T : Tb K mg) : FnOk P w K mg base CX0 2 T.a_is_numbering T.d_is_numbering ["document", "value"] (spP 2 K M_is_numbering) :=
  fn_pure T.F_is_numbering sc_is_numbering rfl (fun cdv A outer s H E hr => have hu := room65 hr
  (ses_cons (se_if (be_w (bw_or (be_not (be_val (fe_isi (by rfl) T.n_isinstance (by rfl) T.n_tuple (by decide +kernel) (wv 1)))) (bw_or1 (be_cmp (c_ne hu) (we_of_fe (fe_len (by rfl) T.n_len (wv 1))) (we_of_fe (fe_len (by rfl) T.n_len (we_of_me (me_call (ok_mark_names T) (hr.mono (by decide : 1 ≤ 1)) (by rfl) T.g_mark_names T.F_mark_names.kp T.b_mark_names (ae_cons (fv 0) ae_nil))))) (nomark _))))) (ses_cons (se_ret (me_of_fe fe_bl))
  ses_nil) ses_nil)
  (ses_cons (se_ret (me_of_fe (fe_all rfl (by rfl) T.n_all (we_of_me (me_lc rfl sc_is_numbering.nd (ie_seq (fv 1)) (blkOk_by (own := [("number", 2)]) (N := ["document", "value", "number"]) (sc := defScope s_is_numbering) (by decide +kernel)) (fun _ _ _ _ _ => (gb 2 sc_is_numbering.nd)) (fun _ _ _ _ _ => ifs_nil) (fun _ _ _ _ _ => (fe_of_me (me_call (ok_is_integer T) (hr.mono (by decide : 1 ≤ 1)) (by rfl) T.g_is_integer T.F_is_integer.kp T.b_is_integer (ae_cons (fv 2) (ae_cons fe_int (ae_cons fe_int ae_nil)))))))))))
  ses_nil)))
theorem ok__law_digits (T : Tb K mg) : FnOk P w K mg base CX0 2 T.a__law_digits T.d__law_digits ["script", "index", "count", "base"] (spP 4 K M__law_digits) :=
  fn_pure T.F__law_digits sc__law_digits rfl (fun cdv A outer s H E hr => have hu := room65 hr
  (ses_cons (ss 4 sc__law_digits.nd (me_of_fe (fe_tup (ae_cons fe_int (ae_cons fe_int (ae_cons fe_int (ae_cons fe_int (ae_cons fe_int (ae_cons fe_int (ae_cons fe_int (ae_cons fe_int ae_nil)))))))))))
  (ses_cons (ss 5 sc__law_digits.nd (me_of_fe (fe_of_me (me_call (ok__law_cell T) (hr.mono (by decide : 1 ≤ 1)) (by rfl) T.g__law_cell T.F__law_cell.kp T.b__law_cell (ae_cons (fv 0) (ae_cons (fv 1) ae_nil))))))
  (ses_cons (ss 6 sc__law_digits.nd (me_of_fe (fe_if (be_cmp c_ge (wv 5) (we_of_fe (fe_pow (we_of_fe fe_int) (we_of_fe fe_int))) (nomark _)) (fv 5) fe_int)))
  (ses_cons (ss 7 sc__law_digits.nd (me_lst ae_nil))
  (ses_cons (se_for PassesOwn.never rfl (ie_range1 (by rfl) T.n_range (ae_cons (fv 2) ae_nil)) (gn 8 sc__law_digits.nd) (ses_cons (ss 9 sc__law_digits.nd (me_of_fe (fe_of_me (me_mul (we_of_fe (fe_mod (wv 5) (we_of_fe (fe_idx (wv 4) (we_of_fe (fe_mod (wv 8) (we_of_fe fe_int))))))) (we_of_me (me_add (we_of_fe fe_int) (we_of_me (me_mul (we_of_me (me_mul (we_of_fe fe_int) (wv 8))) (wv 8)))))))))
  (ses_cons (ss 9 sc__law_digits.nd (me_of_fe (fe_of_me (me_add (we_of_me (me_add (wv 9) (we_of_me (me_mul (we_of_me (me_mul (we_of_fe fe_int) (we_of_me (me_add (wv 8) (we_of_fe fe_int))))) (we_of_me (me_add (wv 8) (we_of_fe fe_int))))))) (we_of_me (me_mul (we_of_fe fe_int) (wv 1)))))))
  (ses_cons (ss 9 sc__law_digits.nd (me_of_fe (fe_mod (wv 9) (we_of_fe (fe_idx (wv 4) (we_of_fe (fe_mod (we_of_me (me_add (we_of_me (me_mul (we_of_fe fe_int) (wv 8))) (wv 1))) (we_of_fe fe_int))))))))
  (ses_cons (ss 9 sc__law_digits.nd (me_of_fe (fe_mod (we_of_me (me_mul (we_of_me (me_mul (wv 9) (wv 9))) (wv 9))) (we_of_fe (fe_idx (wv 4) (we_of_fe (fe_mod (we_of_me (me_add (wv 8) (we_of_fe fe_int))) (we_of_fe fe_int))))))))
  (ses_cons (se_if (be_cmp c_gt (wv 6) (we_of_fe fe_int) (nomark _)) (ses_cons (ss 9 sc__law_digits.nd (me_of_fe (fv 6)))
  ses_nil) ses_nil)
  (ses_cons (se_app 7 (by rfl) (vis_of (by rfl)) (fe_mod (wv 9) (wv 3)))
  (ses_cons (ss 6 sc__law_digits.nd (me_of_fe (fe_fdiv (wv 6) (wv 3))))
  ses_nil))))))))
  (ses_cons (se_retV 7 (by rfl) (vis_of (by rfl)))
  ses_nil)))))))
theorem ok__law_is_item (T : Tb K mg) : FnOk P w K mg base CX0 2 T.a__law_is_item T.d__law_is_item ["value"] (spP 1 K M__law_is_item) :=
  fn_pure T.F__law_is_item sc__law_is_item rfl (fun cdv A outer s H E hr => have hu := room65 hr
  (ses_cons (se_if (be_w (bw_or (be_not (be_val (fe_isi (by rfl) T.n_isinstance (by rfl) T.n_tuple (by decide +kernel) (wv 0)))) (bw_or (be_cmp (c_notin hu) (we_of_fe (fe_len (by rfl) T.n_len (wv 0))) (we_of_fe (fe_tup (ae_cons fe_int (ae_cons fe_int ae_nil)))) (by rfl)) (bw_or1 (be_not (be_val (fe_isi (by rfl) T.n_isinstance (by rfl) T.n_str (by decide +kernel) (we_of_fe (fe_idx (wv 0) (we_of_fe fe_int)))))))))) (ses_cons (se_ret (me_of_fe fe_bl))
  ses_nil) ses_nil)
  (ses_cons (se_if (be_cmp (c_eq hu) (we_of_fe (fe_len (by rfl) T.n_len (wv 0))) (we_of_fe fe_int) (nomark _)) (ses_cons (se_ret (me_of_fe (fe_cmp (c_eq hu) (we_of_fe (fe_idx (wv 0) (we_of_fe fe_int))) (we_of_fe fe_str) (nomark _))))
  ses_nil) ses_nil)
  (ses_cons (se_if (be_cmp (c_eq hu) (we_of_fe (fe_idx (wv 0) (we_of_fe fe_int))) (we_of_fe fe_str) (nomark _)) (ses_cons (se_ret (me_call (ok__law_is_integer T) (hr.mono (by decide : 1 ≤ 1)) (by rfl) T.g__law_is_integer T.F__law_is_integer.kp T.b__law_is_integer (ae_cons (fe_idx (wv 0) (we_of_fe fe_int)) (ae_cons fe_int (ae_cons fe_int ae_nil)))))
  ses_nil) ses_nil)
  (ses_cons (se_if (be_w (bw_or (be_cmp (c_notin hu) (we_of_fe (fe_idx (wv 0) (we_of_fe fe_int))) (we_of_fe (fe_tup (ae_cons fe_str (ae_cons fe_str ae_nil)))) (by rfl)) (bw_or (be_not (be_val (fe_isi (by rfl) T.n_isinstance (by rfl) T.n_str (by decide +kernel) (we_of_fe (fe_idx (wv 0) (we_of_fe fe_int)))))) (bw_or1 (be_not (be_chain c_le c_le (we_of_fe fe_int) (we_of_fe (fe_len (by rfl) T.n_len (we_of_fe (fe_idx (wv 0) (we_of_fe fe_int))))) (we_of_fe fe_int))))))) (ses_cons (se_ret (me_of_fe fe_bl))
  ses_nil) ses_nil)
  (ses_cons (se_ret (me_of_fe (fe_cmp (c_eq hu) (we_of_me (me_lc rfl sc__law_is_item.nd (ie_seq (fe_idx (wv 0) (we_of_fe fe_int))) (blkOk_by (own := [("sign", 1)]) (N := ["value", "sign"]) (sc := defScope s__law_is_item) (by decide +kernel)) (fun _ _ _ _ _ => (gb 1 sc__law_is_item.nd)) (fun _ _ _ _ _ => (ifs_one (be_cmp (c_notin hu) (wv 1) (we_of_fe fe_str) (by rfl)))) (fun _ _ _ _ _ => (fv 1)))) (we_of_me (me_lst ae_nil)) (nomark _))))
  ses_nil))))))
theorem ok__law_is_numbering (T : Tb K mg) : FnOk P w K mg base CX0 2 T.a__law_is_numbering T.d__law_is_numbering ["document", "value"] (spP 2 K M__law_is_numbering) :=
  fn_pure T.F__law_is_numbering sc__law_is_numbering rfl (fun cdv A outer s H E hr => have hu := room65 hr
  (ses_cons (se_if (be_w (bw_or (be_not (be_val (fe_isi (by rfl) T.n_isinstance (by rfl) T.n_tuple (by decide +kernel) (wv 1)))) (bw_or1 (be_cmp (c_ne hu) (we_of_fe (fe_len (by rfl) T.n_len (wv 1))) (we_of_fe (fe_len (by rfl) T.n_len (we_of_me (me_lc rfl sc__law_is_numbering.nd (ie_seq (fv 0)) (blkOk_by (own := [("item", 2)]) (N := ["document", "value", "item", "number"]) (sc := defScope s__law_is_numbering) (by decide +kernel)) (fun _ _ _ _ _ => (gb 2 sc__law_is_numbering.nd)) (fun _ _ _ _ _ => (ifs_one (be_cmp (c_eq hu) (we_of_fe (fe_idx (wv 2) (we_of_fe fe_int))) (we_of_fe fe_str) (nomark _)))) (fun _ _ _ _ _ => (fv 2)))))) (nomark _))))) (ses_cons (se_ret (me_of_fe fe_bl))
  ses_nil) ses_nil)
  (ses_cons (se_ret (me_of_fe (fe_cmp (c_eq hu) (we_of_me (me_lc rfl sc__law_is_numbering.nd (ie_seq (fv 1)) (blkOk_by (own := [("number", 3)]) (N := ["document", "value", "item", "number"]) (sc := defScope s__law_is_numbering) (by decide +kernel)) (fun _ _ _ _ _ => (gb 3 sc__law_is_numbering.nd)) (fun _ _ _ _ _ => (ifs_one (be_not (be_val (fe_of_me (me_call (ok__law_is_integer T) (hr.mono (by decide : 1 ≤ 1)) (by rfl) T.g__law_is_integer T.F__law_is_integer.kp T.b__law_is_integer (ae_cons (fv 3) (ae_cons fe_int (ae_cons (fe_pow (we_of_fe fe_int) (we_of_fe fe_int)) ae_nil))))))))) (fun _ _ _ _ _ => (fv 3)))) (we_of_me (me_lst ae_nil)) (nomark _))))
  ses_nil)))
theorem ok_is_document (T : Tb K mg) : FnOk P w K mg base CX0 3 T.a_is_document T.d_is_document ["value"] (spP 1 K M_is_document) :=
  fn_pure T.F_is_document sc_is_document rfl (fun cdv A outer s H E hr => have hu := room65 hr
  (ses_cons (se_if (be_w (bw_or (be_not (be_val (fe_isi (by rfl) T.n_isinstance (by rfl) T.n_tuple (by decide +kernel) (wv 0)))) (bw_or (be_not (be_chain c_le c_le (we_of_fe fe_int) (we_of_fe (fe_len (by rfl) T.n_len (wv 0))) (we_of_fe fe_int))) (bw_or1 (be_not (be_val (fe_all rfl (by rfl) T.n_all (we_of_me (me_lc rfl sc_is_document.nd (ie_seq (fv 0)) (blkOk_by (own := [("item", 1)]) (N := ["value", "item", "names"]) (sc := defScope s_is_document) (by decide +kernel)) (fun _ _ _ _ _ => (gb 1 sc_is_document.nd)) (fun _ _ _ _ _ => ifs_nil) (fun _ _ _ _ _ => (fe_of_me (me_call (ok_is_item T) (hr.mono (by decide : 2 ≤ 2)) (by rfl) T.g_is_item T.F_is_item.kp T.b_is_item (ae_cons (fv 1) ae_nil))))))))))))) (ses_cons (se_ret (me_of_fe fe_bl))
  ses_nil) ses_nil)
  (ses_cons (ss 2 sc_is_document.nd (me_of_fe (fe_of_me (me_call (ok_mark_names T) (hr.mono (by decide : 1 ≤ 2)) (by rfl) T.g_mark_names T.F_mark_names.kp T.b_mark_names (ae_cons (fv 0) ae_nil)))))
  (ses_cons (se_if (be_w (bw_or (be_cmp c_gt (we_of_fe (fe_len (by rfl) T.n_len (wv 2))) (we_of_fe fe_int) (nomark _)) (bw_or1 (be_cmp c_lt (we_of_fe (fe_lenSet rfl (by rfl) T.n_len (by rfl) T.n_set (wv 2))) (we_of_fe (fe_len (by rfl) T.n_len (wv 2))) (nomark _))))) (ses_cons (se_ret (me_of_fe fe_bl))
  ses_nil) ses_nil)
  (ses_cons (se_ret (me_of_fe (fe_all rfl (by rfl) T.n_all (we_of_me (me_lc rfl sc_is_document.nd (ie_seq (fv 0)) (blkOk_by (own := [("item", 1)]) (N := ["value", "item", "names"]) (sc := defScope s_is_document) (by decide +kernel)) (fun _ _ _ _ _ => (gb 1 sc_is_document.nd)) (fun _ _ _ _ _ => (ifs_one (be_cmp (c_eq hu) (we_of_fe (fe_idx (wv 1) (we_of_fe fe_int))) (we_of_fe fe_str) (nomark _)))) (fun _ _ _ _ _ => (fe_cmp (c_in hu) (we_of_fe (fe_idx (wv 1) (we_of_fe fe_int))) (wv 2) (by rfl))))))))
  ses_nil)))))
theorem ok__law_is_document (T : Tb K mg) : FnOk P w K mg base CX0 3 T.a__law_is_document T.d__law_is_document ["value"] (spP 1 K M__law_is_document) :=
  fn_pure T.F__law_is_document sc__law_is_document rfl (fun cdv A outer s H E hr => have hu := room65 hr
  (ses_cons (se_if (be_w (bw_or (be_not (be_val (fe_isi (by rfl) T.n_isinstance (by rfl) T.n_tuple (by decide +kernel) (wv 0)))) (bw_or1 (be_not (be_chain c_le c_le (we_of_fe fe_int) (we_of_fe (fe_len (by rfl) T.n_len (wv 0))) (we_of_fe fe_int)))))) (ses_cons (se_ret (me_of_fe fe_bl))
  ses_nil) ses_nil)
  (ses_cons (se_if (be_cmp (c_ne hu) (we_of_me (me_lc rfl sc__law_is_document.nd (ie_seq (fv 0)) (blkOk_by (own := [("item", 1)]) (N := ["value", "item", "names", "one", "other"]) (sc := defScope s__law_is_document) (by decide +kernel)) (fun _ _ _ _ _ => (gb 1 sc__law_is_document.nd)) (fun _ _ _ _ _ => (ifs_one (be_not (be_val (fe_of_me (me_call (ok__law_is_item T) (hr.mono (by decide : 2 ≤ 2)) (by rfl) T.g__law_is_item T.F__law_is_item.kp T.b__law_is_item (ae_cons (fv 1) ae_nil))))))) (fun _ _ _ _ _ => (fv 1)))) (we_of_me (me_lst ae_nil)) (nomark _)) (ses_cons (se_ret (me_of_fe fe_bl))
  ses_nil) ses_nil)
  (ses_cons (ss 2 sc__law_is_document.nd (me_of_fe (fe_of_me (me_sortS (by rfl) T.n_sorted (we_of_me (me_lc rfl sc__law_is_document.nd (ie_seq (fv 0)) (blkOk_by (own := [("item", 1)]) (N := ["value", "item", "names", "one", "other"]) (sc := defScope s__law_is_document) (by decide +kernel)) (fun _ _ _ _ _ => (gb 1 sc__law_is_document.nd)) (fun _ _ _ _ _ => (ifs_one (be_cmp (c_eq hu) (we_of_fe (fe_idx (wv 1) (we_of_fe fe_int))) (we_of_fe fe_str) (nomark _)))) (fun _ _ _ _ _ => (fe_idx (wv 1) (we_of_fe fe_int)))))))))
  (ses_cons (se_if (be_w (bw_or (be_cmp c_gt (we_of_fe (fe_len (by rfl) T.n_len (wv 2))) (we_of_fe fe_int) (nomark _)) (bw_or1 (be_cmp (c_ne hu) (we_of_me (me_lc rfl sc__law_is_document.nd (ie_zip (by rfl) T.n_zip (fv 2) (fe_of_me (me_sl (wv 2) (oe_some (we_of_fe fe_int)) oe_none))) (blkOk_by (own := [("one", 3), ("other", 4)]) (N := ["value", "item", "names", "one", "other"]) (sc := defScope s__law_is_document) (by decide +kernel)) (fun _ _ _ _ _ => (ge_tup rfl (ges_cons (gb 3 sc__law_is_document.nd) (ges_cons (gb 4 sc__law_is_document.nd) ges_nil)))) (fun _ _ _ _ _ => (ifs_one (be_cmp (c_eq hu) (wv 3) (wv 4) (nomark _)))) (fun _ _ _ _ _ => fe_int))) (we_of_me (me_lst ae_nil)) (nomark _))))) (ses_cons (se_ret (me_of_fe fe_bl))
  ses_nil) ses_nil)
  (ses_cons (se_ret (me_of_fe (fe_cmp (c_eq hu) (we_of_me (me_lc rfl sc__law_is_document.nd (ie_seq (fv 0)) (blkOk_by (own := [("item", 1)]) (N := ["value", "item", "names", "one", "other"]) (sc := defScope s__law_is_document) (by decide +kernel)) (fun _ _ _ _ _ => (gb 1 sc__law_is_document.nd)) (fun _ _ _ _ _ => (ifs_one (be_w (bw_and (be_cmp (c_eq hu) (we_of_fe (fe_idx (wv 1) (we_of_fe fe_int))) (we_of_fe fe_str) (nomark _)) (bw_and1 (be_cmp (c_notin hu) (we_of_fe (fe_idx (wv 1) (we_of_fe fe_int))) (wv 2) (by rfl))))))) (fun _ _ _ _ _ => (fv 1)))) (we_of_me (me_lst ae_nil)) (nomark _))))
  ses_nil))))))
theorem ok__law_pathsR (T : Tb K mg) : ∀ n_ : Nat, FnOk P w K mg base CX0 (1 + n_) T.a__law_paths T.d__law_paths ["value"] (spP 1 K (R__law_paths n_))
  | 0 => fn_pure T.F__law_paths sc__law_paths rfl (fun cdv A outer s H E hr => ses_never)
  | n_ + 1 => fn_pure (k := 1 + n_) T.F__law_paths sc__law_paths rfl (fun cdv A outer s H E hr => have hu := room65 (k := 1 + n_) hr
  (ses_cons (ss 1 sc__law_paths.nd (me_of_fe (fe_of_me (me_lst (ae_cons (fe_tup ae_nil) ae_nil)))))
  (ses_cons (se_if (be_val (fe_isi2 (by rfl) T.n_isinstance (by rfl) T.n_list (by decide +kernel) (by rfl) T.n_tuple (by decide +kernel) (wv 0))) (ses_cons (se_for PassesOwn.never rfl (ie_enum (by rfl) T.n_enumerate (fv 0)) (ge_tup rfl (ges_cons (gn 2 sc__law_paths.nd) (ges_cons (gn 3 sc__law_paths.nd) ges_nil))) (ses_cons (ss 1 sc__law_paths.nd (me_of_fe (fe_of_me (me_add (wv 1) (we_of_me (me_lc rfl sc__law_paths.nd (ie_seq (fe_of_me (me_call (ok__law_pathsR T n_) hr (by rfl) T.g__law_paths T.F__law_paths.kp T.b__law_paths (ae_cons (fv 3) ae_nil)))) (blkOk_by (own := [("path", 4)]) (N := ["value", "paths", "index", "part", "path"]) (sc := defScope s__law_paths) (by decide +kernel)) (fun _ _ _ _ _ => (gb 4 sc__law_paths.nd)) (fun _ _ _ _ _ => ifs_nil) (fun _ _ _ _ _ => (fe_of_me (me_add (we_of_fe (fe_tup (ae_cons (fv 2) ae_nil))) (wv 4))))))))))
  ses_nil))
  ses_nil) ses_nil)
  (ses_cons (se_ret (me_of_fe (fv 1)))
  ses_nil))))
theorem ok__law_paths (T : Tb K mg) : FnOk P w K mg base CX0 13 T.a__law_paths T.d__law_paths ["value"] (spP 1 K M__law_paths) := ok__law_pathsR T 12
theorem ok__law_any_valueR (T : Tb K mg) : ∀ n_ : Nat, FnOk P w K mg base CX0 (1 + n_) T.a__law_any_value T.d__law_any_value ["digits", "depth"] (spP 2 K (R__law_any_value n_))
  | 0 => fn_pure T.F__law_any_value sc__law_any_value rfl (fun cdv A outer s H E hr => ses_never)
  | n_ + 1 => fn_pure (k := 1 + n_) T.F__law_any_value sc__law_any_value rfl (fun cdv A outer s H E hr => have hu := room65 (k := 1 + n_) hr
  (ses_cons (ss 2 sc__law_any_value.nd (me_of_fe (fe_mod (we_of_fe (fe_idx (wv 0) (wv 1))) (we_of_fe fe_int))))
  (ses_cons (ss 3 sc__law_any_value.nd (me_of_fe (fe_idx (we_of_me (me_lst (ae_cons (fe_sub (we_of_fe (fe_mod (we_of_fe (fe_idx (wv 0) (we_of_me (me_add (wv 1) (we_of_fe fe_int))))) (we_of_fe fe_int))) (we_of_fe fe_int)) (ae_cons (fe_sub (we_of_fe fe_int) (we_of_fe (fe_pow (we_of_fe fe_int) (we_of_fe fe_int)))) (ae_cons (fe_pow (we_of_fe fe_int) (we_of_fe fe_int)) ae_nil))))) (we_of_fe (fe_mod (we_of_fe (fe_idx (wv 0) (we_of_me (me_add (wv 1) (we_of_fe fe_int))))) (we_of_fe fe_int))))))
  (ses_cons (se_if (be_w (bw_or (be_cmp c_lt (wv 2) (we_of_fe fe_int) (nomark _)) (bw_or1 (be_cmp c_gt (wv 1) (we_of_fe fe_int) (nomark _))))) (ses_cons (se_ret (me_of_fe (fv 3)))
  ses_nil) ses_nil)
  (ses_cons (se_if (be_cmp c_lt (wv 2) (we_of_fe fe_int) (nomark _)) (ses_cons (se_ret (me_of_fe (fe_idx (we_of_me (me_lst (ae_cons fe_bl (ae_cons fe_bl (ae_cons fe_non ae_nil))))) (we_of_fe (fe_sub (wv 2) (we_of_fe fe_int))))))
  ses_nil) ses_nil)
  (ses_cons (se_if (be_cmp c_lt (wv 2) (we_of_fe fe_int) (nomark _)) (ses_cons (se_ret (me_of_fe (fe_idx (we_of_me (me_lst (ae_cons fe_str (ae_cons fe_str (ae_cons fe_str (ae_cons fe_str (ae_cons fe_str (ae_cons fe_str (ae_cons fe_str (ae_cons fe_str ae_nil)))))))))) (we_of_fe (fe_mod (we_of_fe (fe_idx (wv 0) (we_of_me (me_add (wv 1) (we_of_fe fe_int))))) (we_of_fe fe_int))))))
  ses_nil) ses_nil)
  (ses_cons (se_setLcF 4 rfl sc__law_any_value.nd rfl rfl (sw_true rfl rfl rfl (by decide +kernel)) (ie_range1 (by rfl) T.n_range (ae_cons (fe_mod (we_of_fe (fe_idx (wv 0) (we_of_me (me_add (wv 1) (we_of_fe fe_int))))) (we_of_fe fe_int)) ae_nil)) (blkOk_by (own := [("k", 5)]) (N := ["digits", "depth", "choice", "number", "parts", "k"]) (sc := defScope s__law_any_value) (by decide +kernel)) (fun _ _ _ _ _ => (gb 5 sc__law_any_value.nd)) (fun _ _ _ _ _ => ifs_nil) (fun _ _ _ _ _ => (fe_of_me (me_call (ok__law_any_valueR T n_) hr (by rfl) T.g__law_any_value T.F__law_any_value.kp T.b__law_any_value (ae_cons (fe_of_me (me_add (we_of_me (me_sl (wv 0) (oe_some (wv 5)) oe_none)) (we_of_me (me_sl (wv 0) oe_none (oe_some (wv 5)))))) (ae_cons (fe_of_me (me_add (wv 1) (we_of_fe fe_int))) ae_nil))))))
  (ses_cons (se_ret (me_of_fe (fe_if (be_cmp (c_eq hu) (wv 2) (we_of_fe fe_int) (nomark _)) (fv 4) (fe_tuple (by rfl) T.n_tuple (wv 4)))))
  ses_nil))))))))
theorem ok__law_any_value (T : Tb K mg) : FnOk P w K mg base CX0 13 T.a__law_any_value T.d__law_any_value ["digits", "depth"] (spP 2 K M__law_any_value) := ok__law_any_valueR T 12
theorem ok__law_change_atR (T : Tb K mg) : ∀ n_ : Nat, FnOk P w K mg base CX0 (2 + n_) T.a__law_change_at T.d__law_change_at ["value", "path", "digits"] (spP 3 K (R__law_change_at n_))
  | 0 => fn_pure T.F__law_change_at sc__law_change_at rfl (fun cdv A outer s H E hr => ses_never)
  | n_ + 1 => fn_pure (k := 2 + n_) T.F__law_change_at sc__law_change_at rfl (fun cdv A outer s H E hr => have hu := room65 (k := 2 + n_) hr
  (ses_cons (se_if (be_cmp (c_eq hu) (wv 1) (we_of_fe (fe_tup ae_nil)) (nomark _)) (ses_cons (se_ret (me_call (ok__law_other_value T) (hr.mono (Nat.le_trans (by decide : 1 ≤ 2) (Nat.le_add_right _ _))) (by rfl) T.g__law_other_value T.F__law_other_value.kp T.b__law_other_value (ae_cons (fv 0) (ae_cons (fv 2) ae_nil))))
  ses_nil) ses_nil)
  (ses_cons (ss 3 sc__law_change_at.nd (me_list (by rfl) T.n_list (wv 0)))
  (ses_cons (se_if (be_w (bw_and (be_cmp (c_eq hu) (we_of_fe (fe_len (by rfl) T.n_len (wv 1))) (we_of_fe fe_int) (nomark _)) (bw_and1 (be_cmp (c_eq hu) (we_of_fe (fe_mod (we_of_fe (fe_idx (wv 2) (we_of_fe fe_int))) (we_of_fe fe_int))) (we_of_fe fe_int) (nomark _))))) (ses_cons (se_iceT 3 (ss 3 sc__law_change_at.nd (me_call (ok__law_moved_item T) (hr.mono (Nat.le_trans (by decide : 1 ≤ 2) (Nat.le_add_right _ _))) (by rfl) T.g__law_moved_item T.F__law_moved_item.kp T.b__law_moved_item (ae_cons (fv 3) (ae_cons (fe_idx (wv 1) (we_of_fe fe_int)) (ae_cons (fv 2) ae_nil))))))
  ses_nil) (ses_cons (se_setix 3 (by rfl) (vis_of (by rfl)) (fe_idx (wv 1) (we_of_fe fe_int)) (fe_of_me (me_call (ok__law_change_atR T n_) hr (by rfl) T.g__law_change_at T.F__law_change_at.kp T.b__law_change_at (ae_cons (fe_idx (wv 3) (we_of_fe (fe_idx (wv 1) (we_of_fe fe_int)))) (ae_cons (fe_of_me (me_sl (wv 1) (oe_some (we_of_fe fe_int)) oe_none)) (ae_cons (fv 2) ae_nil))))))
  ses_nil))
  (ses_cons (se_iceT 3 (se_ret (me_of_fe (fe_if (be_val (fe_isi (by rfl) T.n_isinstance (by rfl) T.n_list (by decide +kernel) (wv 0))) (fv 3) (fe_tuple (by rfl) T.n_tuple (wv 3))))))
  ses_nil)))))
theorem ok__law_change_at (T : Tb K mg) : FnOk P w K mg base CX0 14 T.a__law_change_at T.d__law_change_at ["value", "path", "digits"] (spP 3 K M__law_change_at) := ok__law_change_atR T 12
theorem ok__law_mutated (T : Tb K mg) : FnOk P w K mg base CX0 15 T.a__law_mutated T.d__law_mutated ["value", "digits"] (spP 2 K M__law_mutated) :=
  fn_pure T.F__law_mutated sc__law_mutated rfl (fun cdv A outer s H E hr => have hu := room65 hr
  (ses_cons (ss 2 sc__law_mutated.nd (me_of_fe (fe_of_me (me_call (ok__law_paths T) (hr.mono (by decide : 13 ≤ 14)) (by rfl) T.g__law_paths T.F__law_paths.kp T.b__law_paths (ae_cons (fv 0) ae_nil)))))
  (ses_cons (se_ret (me_call (ok__law_change_at T) (hr.mono (by decide : 14 ≤ 14)) (by rfl) T.g__law_change_at T.F__law_change_at.kp T.b__law_change_at (ae_cons (fv 0) (ae_cons (fe_idx (wv 2) (we_of_fe (fe_mod (we_of_fe (fe_idx (wv 1) (we_of_fe fe_int))) (we_of_fe (fe_len (by rfl) T.n_len (wv 2)))))) (ae_cons (fv 1) ae_nil)))))
  ses_nil)))
theorem ok_law (T : Tb K mg) : FnOk P w K mg base CX0 16 T.a_law T.d_law ["script"] (spP 1 K M_law) :=
  fn_pure T.F_law sc_law rfl (fun cdv A outer s H E hr => have hu := room65 hr
  (ses_cons (se_for PassesOwn.never rfl (ie_seq (fe_tup (ae_cons fe_int (ae_cons fe_int (ae_cons fe_int (ae_cons fe_int ae_nil)))))) (gn 1 sc_law.nd) (ses_cons (ss 2 sc_law.nd (me_of_fe (fe_of_me (me_call (ok__law_digits T) (hr.mono (by decide : 2 ≤ 15)) (by rfl) T.g__law_digits T.F__law_digits.kp T.b__law_digits (ae_cons (fv 0) (ae_cons (fv 1) (ae_cons fe_int (ae_cons fe_int ae_nil))))))))
  (ses_cons (se_asg (fe_of_me (me_call (ok__law_document T) (hr.mono (by decide : 1 ≤ 15)) (by rfl) T.g__law_document T.F__law_document.kp T.b__law_document (ae_cons (fv 2) (ae_cons fe_int ae_nil)))) (ge_tup rfl (ges_cons (gn 3 sc_law.nd) (ges_cons (gn 4 sc_law.nd) ges_nil))))
  (ses_cons (ss 5 sc_law.nd (me_of_fe (fe_of_me (me_call (ok__law_start T) (hr.mono (by decide : 1 ≤ 15)) (by rfl) T.g__law_start T.F__law_start.kp T.b__law_start (ae_cons (fe_of_me (me_sl (wv 2) (oe_some (we_of_fe fe_int)) oe_none)) (ae_cons (fv 3) ae_nil))))))
  (ses_cons (ss 6 sc_law.nd (me_of_fe (fe_of_me (me_lst (ae_cons (fv 3) (ae_cons (fe_of_me (me_sl (wv 3) (oe_some (we_of_fe fe_int)) oe_none)) (ae_cons (fe_of_me (me_add (wv 3) (we_of_me (me_sl (wv 3) oe_none (oe_some (we_of_fe fe_int)))))) (ae_cons (fe_of_me (me_rev (wv 3))) (ae_cons (fe_of_me (me_list (by rfl) T.n_list (wv 3))) ae_nil)))))))))
  (ses_cons (ss 7 sc_law.nd (me_lst (ae_cons (fv 5) (ae_cons (fe_of_me (me_sl (wv 5) (oe_some (we_of_fe fe_int)) oe_none)) (ae_cons (fe_of_me (me_add (wv 5) (we_of_fe (fe_tup (ae_cons fe_int ae_nil))))) (ae_cons (fe_of_me (me_list (by rfl) T.n_list (wv 5))) (ae_cons (fe_of_me (me_add (we_of_fe (fe_tup (ae_cons fe_int ae_nil))) (we_of_me (me_sl (wv 5) (oe_some (we_of_fe fe_int)) oe_none)))) (ae_cons (fe_of_me (me_add (we_of_fe (fe_tup (ae_cons (fe_of_me (me_add (we_of_fe (fe_pow (we_of_fe fe_int) (we_of_fe fe_int))) (we_of_fe fe_int))) ae_nil))) (we_of_me (me_sl (wv 5) (oe_some (we_of_fe fe_int)) oe_none)))) (ae_cons fe_non (ae_cons (fe_tup ae_nil) ae_nil))))))))))
  (ses_cons (se_for PassesOwn.never rfl (ie_range1 (by rfl) T.n_range (ae_cons fe_int ae_nil)) (gn 8 sc_law.nd) (ses_cons (ss 9 sc_law.nd (me_of_fe (fe_of_me (me_sl (wv 2) (oe_some (we_of_me (me_mul (we_of_fe fe_int) (wv 8)))) (oe_some (we_of_me (me_add (we_of_me (me_mul (we_of_fe fe_int) (wv 8))) (we_of_fe fe_int))))))))
  (ses_cons (ss 10 sc_law.nd (me_of_fe (fe_of_me (me_call (ok__law_mutated T) (hr.mono (by decide : 15 ≤ 15)) (by rfl) T.g__law_mutated T.F__law_mutated.kp T.b__law_mutated (ae_cons (fv 3) (ae_cons (fv 9) ae_nil))))))
  (ses_cons (ss 6 sc_law.nd (me_of_fe (fe_of_me (me_add (wv 6) (we_of_me (me_lst (ae_cons (fv 10) (ae_cons (fe_of_me (me_call (ok__law_mutated T) (hr.mono (by decide : 15 ≤ 15)) (by rfl) T.g__law_mutated T.F__law_mutated.kp T.b__law_mutated (ae_cons (fv 10) (ae_cons (fe_of_me (me_rev (wv 9))) ae_nil)))) (ae_cons (fe_of_me (me_call (ok__law_any_value T) (hr.mono (by decide : 13 ≤ 15)) (by rfl) T.g__law_any_value T.F__law_any_value.kp T.b__law_any_value (ae_cons (fe_of_me (me_add (we_of_me (me_sl (wv 2) (oe_some (wv 8)) oe_none)) (we_of_me (me_sl (wv 2) oe_none (oe_some (wv 8)))))) (ae_cons fe_int ae_nil)))) ae_nil)))))))))
  (ses_cons (se_app 7 (by rfl) (vis_of (by rfl)) (fe_of_me (me_call (ok__law_mutated T) (hr.mono (by decide : 15 ≤ 15)) (by rfl) T.g__law_mutated T.F__law_mutated.kp T.b__law_mutated (ae_cons (fv 5) (ae_cons (fv 9) ae_nil)))))
  ses_nil)))))
  (ses_cons (se_for PassesOwn.never rfl (ie_seq (fe_of_me (me_add (we_of_me (me_add (we_of_me (me_call0 (ok__law_written T) (hr.mono (by decide : 1 ≤ 15)) (by rfl) T.g__law_written T.F__law_written.kp T.b__law_written)) (wv 6))) (wv 7)))) (gn 11 sc_law.nd) (ses_cons (se_if (be_not (be_val (fe_of_me (me_call (ok__law_same_bool T) (hr.mono (by decide : 1 ≤ 15)) (by rfl) T.g__law_same_bool T.F__law_same_bool.kp T.b__law_same_bool (ae_cons (fe_of_me (me_call (ok_is_item T) (hr.mono (by decide : 2 ≤ 15)) (by rfl) T.g_is_item T.F_is_item.kp T.b_is_item (ae_cons (fv 11) ae_nil))) (ae_cons (fe_of_me (me_call (ok__law_is_item T) (hr.mono (by decide : 2 ≤ 15)) (by rfl) T.g__law_is_item T.F__law_is_item.kp T.b__law_is_item (ae_cons (fv 11) ae_nil))) ae_nil)))))) (ses_cons (se_ret (me_of_fe fe_bl))
  ses_nil) ses_nil)
  (ses_cons (se_if (be_not (be_val (fe_of_me (me_call (ok__law_same_bool T) (hr.mono (by decide : 1 ≤ 15)) (by rfl) T.g__law_same_bool T.F__law_same_bool.kp T.b__law_same_bool (ae_cons (fe_of_me (me_call (ok_is_document T) (hr.mono (by decide : 3 ≤ 15)) (by rfl) T.g_is_document T.F_is_document.kp T.b_is_document (ae_cons (fv 11) ae_nil))) (ae_cons (fe_of_me (me_call (ok__law_is_document T) (hr.mono (by decide : 3 ≤ 15)) (by rfl) T.g__law_is_document T.F__law_is_document.kp T.b__law_is_document (ae_cons (fv 11) ae_nil))) ae_nil)))))) (ses_cons (se_ret (me_of_fe fe_bl))
  ses_nil) ses_nil)
  (ses_cons (se_if (be_not (be_val (fe_of_me (me_call (ok__law_same_bool T) (hr.mono (by decide : 1 ≤ 15)) (by rfl) T.g__law_same_bool T.F__law_same_bool.kp T.b__law_same_bool (ae_cons (fe_of_me (me_call (ok_is_numbering T) (hr.mono (by decide : 2 ≤ 15)) (by rfl) T.g_is_numbering T.F_is_numbering.kp T.b_is_numbering (ae_cons (fv 3) (ae_cons (fv 11) ae_nil)))) (ae_cons (fe_of_me (me_call (ok__law_is_numbering T) (hr.mono (by decide : 2 ≤ 15)) (by rfl) T.g__law_is_numbering T.F__law_is_numbering.kp T.b__law_is_numbering (ae_cons (fv 3) (ae_cons (fv 11) ae_nil)))) ae_nil)))))) (ses_cons (se_ret (me_of_fe fe_bl))
  ses_nil) ses_nil)
  ses_nil))))
  ses_nil))))))))
  (ses_cons (se_ret (me_of_fe fe_bl))
  ses_nil)))
end
def spLaw (K : PySem.W.Frag) : Sp := fun vs H Q _ => ∃ (a : Addr) (ns : List Int), vs = [.ref a] ∧ FzL K H a (ns.map V.int) ∧ ns.length ≤ 63 ∧ ∀ H', Q (.bl true) H'
theorem ok_lawT {P : Program} {w : World} {K : PySem.W.Frag} {mg : Str → Option Value} {base : Heap} (T : Tb K mg) (hlaw : ∀ ns : List Int, ns.length ≤ 63 → M_law [.scr ns] = some (.bl true)) : FnOk P w K mg base CX0 16 T.a_law T.d_law ["script"] (spLaw K) :=
  FnOk.imp (ok_law T) fun vs H Q E ⟨a, ns, e, hF, hl, q⟩ => by
    subst e
    refine ⟨[.scr ns], .bl true, rfl, ?_, hlaw ns hl, fun v H' s r => ?_⟩
    · simp only [RepL, RepF]
      exact ⟨_, _, rfl, ⟨a, rfl, hF⟩, rfl⟩
    · have r : RepF K H' (.bl true) v := r
      have : v = .bl true := repF_blv r
      subst this
      exact q H'
theorem all_mk {l : PySem.W.OpenLaw} {w : World} {K : PySem.W.Frag} {h : Heap} {mg : Str → Option Value} {fa f0 f1 f2 f3 f4 f5 f6 f7 f8 f9 f10 f11 f12 f13 f14 f15 f16 f17 f18 f19 f20 f21 f22 : Addr} (X : K.In h) (G : h.Ns mainGlobals mg) (hfa : mg "law" = some (.ref fa)) (hlaw : ∀ ns : List Int, ns.length ≤ 63 → M_law [.scr ns] = some (.bl true))
    {od0 an0 od1 an1 od2 an2 od3 an3 od4 an4 od5 an5 od6 an6 od7 an7 od8 an8 od9 an9 od10 an10 od11 an11 od12 an12 od13 an13 od14 an14 od15 an15 od16 an16 od17 an17 od18 an18 od19 an19 od20 an20 od21 an21 od22 an22 : Option Addr} {sl0 sl1 sl2 sl3 sl4 sl5 sl6 sl7 sl8 sl9 sl10 sl11 sl12 sl13 sl14 sl15 sl16 sl17 sl18 sl19 sl20 sl21 sl22 : Array (Option Value)} {oc0 kV0 dc0 pm0 cd0 ct0 oc1 kV1 dc1 pm1 cd1 ct1 oc2 kV2 dc2 pm2 cd2 ct2 oc3 kV3 dc3 pm3 cd3 ct3 oc4 kV4 dc4 pm4 cd4 ct4 oc5 kV5 dc5 pm5 cd5 ct5 oc6 kV6 dc6 pm6 cd6 ct6 oc7 kV7 dc7 pm7 cd7 ct7 oc8 kV8 dc8 pm8 cd8 ct8 oc9 kV9 dc9 pm9 cd9 ct9 oc10 kV10 dc10 pm10 cd10 ct10 oc11 kV11 dc11 pm11 cd11 ct11 oc12 kV12 dc12 pm12 cd12 ct12 oc13 kV13 dc13 pm13 cd13 ct13 oc14 kV14 dc14 pm14 cd14 ct14 oc15 kV15 dc15 pm15 cd15 ct15 oc16 kV16 dc16 pm16 cd16 ct16 oc17 kV17 dc17 pm17 cd17 ct17 oc18 kV18 dc18 pm18 cd18 ct18 oc19 kV19 dc19 pm19 cd19 ct19 oc20 kV20 dc20 pm20 cd20 ct20 oc21 kV21 dc21 pm21 cd21 ct21 oc22 kV22 dc22 pm22 cd22 ct22 : Value}
    (a0 : PySem.W.nsIn K mainGlobals "is_integer" = some (some (.ref f0))) (l0 : K.lookup f0 = some ⟨oc0, od0, .func (PySem.W.fnOf "is_integer" "is_integer" (defArgs s_is_integer) (defBody s_is_integer) (defScope s_is_integer) .none kV0 dc0 pm0 an0 cd0 ct0), sl0⟩) (c0 : PySem.W.codeIn K cd0 "is_integer" = true) (k0 : PySem.W.keepIn K (.ref f0) = true)
    (a1 : PySem.W.nsIn K mainGlobals "is_name" = some (some (.ref f1))) (l1 : K.lookup f1 = some ⟨oc1, od1, .func (PySem.W.fnOf "is_name" "is_name" (defArgs s_is_name) (defBody s_is_name) (defScope s_is_name) .none kV1 dc1 pm1 an1 cd1 ct1), sl1⟩) (c1 : PySem.W.codeIn K cd1 "is_name" = true) (k1 : PySem.W.keepIn K (.ref f1) = true)
    (a2 : PySem.W.nsIn K mainGlobals "mark_names" = some (some (.ref f2))) (l2 : K.lookup f2 = some ⟨oc2, od2, .func (PySem.W.fnOf "mark_names" "mark_names" (defArgs s_mark_names) (defBody s_mark_names) (defScope s_mark_names) .none kV2 dc2 pm2 an2 cd2 ct2), sl2⟩) (c2 : PySem.W.codeIn K cd2 "mark_names" = true) (k2 : PySem.W.keepIn K (.ref f2) = true)
    (a3 : PySem.W.nsIn K mainGlobals "_law_cell" = some (some (.ref f3))) (l3 : K.lookup f3 = some ⟨oc3, od3, .func (PySem.W.fnOf "_law_cell" "_law_cell" (defArgs s__law_cell) (defBody s__law_cell) (defScope s__law_cell) .none kV3 dc3 pm3 an3 cd3 ct3), sl3⟩) (c3 : PySem.W.codeIn K cd3 "_law_cell" = true) (k3 : PySem.W.keepIn K (.ref f3) = true)
    (a4 : PySem.W.nsIn K mainGlobals "_law_is_integer" = some (some (.ref f4))) (l4 : K.lookup f4 = some ⟨oc4, od4, .func (PySem.W.fnOf "_law_is_integer" "_law_is_integer" (defArgs s__law_is_integer) (defBody s__law_is_integer) (defScope s__law_is_integer) .none kV4 dc4 pm4 an4 cd4 ct4), sl4⟩) (c4 : PySem.W.codeIn K cd4 "_law_is_integer" = true) (k4 : PySem.W.keepIn K (.ref f4) = true)
    (a5 : PySem.W.nsIn K mainGlobals "_law_same_bool" = some (some (.ref f5))) (l5 : K.lookup f5 = some ⟨oc5, od5, .func (PySem.W.fnOf "_law_same_bool" "_law_same_bool" (defArgs s__law_same_bool) (defBody s__law_same_bool) (defScope s__law_same_bool) .none kV5 dc5 pm5 an5 cd5 ct5), sl5⟩) (c5 : PySem.W.codeIn K cd5 "_law_same_bool" = true) (k5 : PySem.W.keepIn K (.ref f5) = true)
    (a6 : PySem.W.nsIn K mainGlobals "_law_other_value" = some (some (.ref f6))) (l6 : K.lookup f6 = some ⟨oc6, od6, .func (PySem.W.fnOf "_law_other_value" "_law_other_value" (defArgs s__law_other_value) (defBody s__law_other_value) (defScope s__law_other_value) .none kV6 dc6 pm6 an6 cd6 ct6), sl6⟩) (c6 : PySem.W.codeIn K cd6 "_law_other_value" = true) (k6 : PySem.W.keepIn K (.ref f6) = true)
    (a7 : PySem.W.nsIn K mainGlobals "_law_moved_item" = some (some (.ref f7))) (l7 : K.lookup f7 = some ⟨oc7, od7, .func (PySem.W.fnOf "_law_moved_item" "_law_moved_item" (defArgs s__law_moved_item) (defBody s__law_moved_item) (defScope s__law_moved_item) .none kV7 dc7 pm7 an7 cd7 ct7), sl7⟩) (c7 : PySem.W.codeIn K cd7 "_law_moved_item" = true) (k7 : PySem.W.keepIn K (.ref f7) = true)
    (a8 : PySem.W.nsIn K mainGlobals "_law_document" = some (some (.ref f8))) (l8 : K.lookup f8 = some ⟨oc8, od8, .func (PySem.W.fnOf "_law_document" "_law_document" (defArgs s__law_document) (defBody s__law_document) (defScope s__law_document) .none kV8 dc8 pm8 an8 cd8 ct8), sl8⟩) (c8 : PySem.W.codeIn K cd8 "_law_document" = true) (k8 : PySem.W.keepIn K (.ref f8) = true)
    (a9 : PySem.W.nsIn K mainGlobals "_law_start" = some (some (.ref f9))) (l9 : K.lookup f9 = some ⟨oc9, od9, .func (PySem.W.fnOf "_law_start" "_law_start" (defArgs s__law_start) (defBody s__law_start) (defScope s__law_start) .none kV9 dc9 pm9 an9 cd9 ct9), sl9⟩) (c9 : PySem.W.codeIn K cd9 "_law_start" = true) (k9 : PySem.W.keepIn K (.ref f9) = true)
    (a10 : PySem.W.nsIn K mainGlobals "_law_written" = some (some (.ref f10))) (l10 : K.lookup f10 = some ⟨oc10, od10, .func (PySem.W.fnOf "_law_written" "_law_written" (defArgs s__law_written) (defBody s__law_written) (defScope s__law_written) .none kV10 dc10 pm10 an10 cd10 ct10), sl10⟩) (c10 : PySem.W.codeIn K cd10 "_law_written" = true) (k10 : PySem.W.keepIn K (.ref f10) = true)
    (a11 : PySem.W.nsIn K mainGlobals "is_item" = some (some (.ref f11))) (l11 : K.lookup f11 = some ⟨oc11, od11, .func (PySem.W.fnOf "is_item" "is_item" (defArgs s_is_item) (defBody s_is_item) (defScope s_is_item) .none kV11 dc11 pm11 an11 cd11 ct11), sl11⟩) (c11 : PySem.W.codeIn K cd11 "is_item" = true) (k11 : PySem.W.keepIn K (.ref f11) = true)
    (a12 : PySem.W.nsIn K mainGlobals "is_numbering" = some (some (.ref f12))) (l12 : K.lookup f12 = some ⟨oc12, od12, .func (PySem.W.fnOf "is_numbering" "is_numbering" (defArgs s_is_numbering) (defBody s_is_numbering) (defScope s_is_numbering) .none kV12 dc12 pm12 an12 cd12 ct12), sl12⟩) (c12 : PySem.W.codeIn K cd12 "is_numbering" = true) (k12 : PySem.W.keepIn K (.ref f12) = true)
    (a13 : PySem.W.nsIn K mainGlobals "_law_digits" = some (some (.ref f13))) (l13 : K.lookup f13 = some ⟨oc13, od13, .func (PySem.W.fnOf "_law_digits" "_law_digits" (defArgs s__law_digits) (defBody s__law_digits) (defScope s__law_digits) .none kV13 dc13 pm13 an13 cd13 ct13), sl13⟩) (c13 : PySem.W.codeIn K cd13 "_law_digits" = true) (k13 : PySem.W.keepIn K (.ref f13) = true)
    (a14 : PySem.W.nsIn K mainGlobals "_law_is_item" = some (some (.ref f14))) (l14 : K.lookup f14 = some ⟨oc14, od14, .func (PySem.W.fnOf "_law_is_item" "_law_is_item" (defArgs s__law_is_item) (defBody s__law_is_item) (defScope s__law_is_item) .none kV14 dc14 pm14 an14 cd14 ct14), sl14⟩) (c14 : PySem.W.codeIn K cd14 "_law_is_item" = true) (k14 : PySem.W.keepIn K (.ref f14) = true)
    (a15 : PySem.W.nsIn K mainGlobals "_law_is_numbering" = some (some (.ref f15))) (l15 : K.lookup f15 = some ⟨oc15, od15, .func (PySem.W.fnOf "_law_is_numbering" "_law_is_numbering" (defArgs s__law_is_numbering) (defBody s__law_is_numbering) (defScope s__law_is_numbering) .none kV15 dc15 pm15 an15 cd15 ct15), sl15⟩) (c15 : PySem.W.codeIn K cd15 "_law_is_numbering" = true) (k15 : PySem.W.keepIn K (.ref f15) = true)
    (a16 : PySem.W.nsIn K mainGlobals "is_document" = some (some (.ref f16))) (l16 : K.lookup f16 = some ⟨oc16, od16, .func (PySem.W.fnOf "is_document" "is_document" (defArgs s_is_document) (defBody s_is_document) (defScope s_is_document) .none kV16 dc16 pm16 an16 cd16 ct16), sl16⟩) (c16 : PySem.W.codeIn K cd16 "is_document" = true) (k16 : PySem.W.keepIn K (.ref f16) = true)
    (a17 : PySem.W.nsIn K mainGlobals "_law_is_document" = some (some (.ref f17))) (l17 : K.lookup f17 = some ⟨oc17, od17, .func (PySem.W.fnOf "_law_is_document" "_law_is_document" (defArgs s__law_is_document) (defBody s__law_is_document) (defScope s__law_is_document) .none kV17 dc17 pm17 an17 cd17 ct17), sl17⟩) (c17 : PySem.W.codeIn K cd17 "_law_is_document" = true) (k17 : PySem.W.keepIn K (.ref f17) = true)
    (a18 : PySem.W.nsIn K mainGlobals "_law_paths" = some (some (.ref f18))) (l18 : K.lookup f18 = some ⟨oc18, od18, .func (PySem.W.fnOf "_law_paths" "_law_paths" (defArgs s__law_paths) (defBody s__law_paths) (defScope s__law_paths) .none kV18 dc18 pm18 an18 cd18 ct18), sl18⟩) (c18 : PySem.W.codeIn K cd18 "_law_paths" = true) (k18 : PySem.W.keepIn K (.ref f18) = true)
    (a19 : PySem.W.nsIn K mainGlobals "_law_any_value" = some (some (.ref f19))) (l19 : K.lookup f19 = some ⟨oc19, od19, .func (PySem.W.fnOf "_law_any_value" "_law_any_value" (defArgs s__law_any_value) (defBody s__law_any_value) (defScope s__law_any_value) .none kV19 dc19 pm19 an19 cd19 ct19), sl19⟩) (c19 : PySem.W.codeIn K cd19 "_law_any_value" = true) (k19 : PySem.W.keepIn K (.ref f19) = true)
    (a20 : PySem.W.nsIn K mainGlobals "_law_change_at" = some (some (.ref f20))) (l20 : K.lookup f20 = some ⟨oc20, od20, .func (PySem.W.fnOf "_law_change_at" "_law_change_at" (defArgs s__law_change_at) (defBody s__law_change_at) (defScope s__law_change_at) .none kV20 dc20 pm20 an20 cd20 ct20), sl20⟩) (c20 : PySem.W.codeIn K cd20 "_law_change_at" = true) (k20 : PySem.W.keepIn K (.ref f20) = true)
    (a21 : PySem.W.nsIn K mainGlobals "_law_mutated" = some (some (.ref f21))) (l21 : K.lookup f21 = some ⟨oc21, od21, .func (PySem.W.fnOf "_law_mutated" "_law_mutated" (defArgs s__law_mutated) (defBody s__law_mutated) (defScope s__law_mutated) .none kV21 dc21 pm21 an21 cd21 ct21), sl21⟩) (c21 : PySem.W.codeIn K cd21 "_law_mutated" = true) (k21 : PySem.W.keepIn K (.ref f21) = true)
    (a22 : PySem.W.nsIn K mainGlobals "law" = some (some (.ref f22))) (l22 : K.lookup f22 = some ⟨oc22, od22, .func (PySem.W.fnOf "law" "law" (defArgs s_law) (defBody s_law) (defScope s_law) .none kV22 dc22 pm22 an22 cd22 ct22), sl22⟩) (c22 : PySem.W.codeIn K cd22 "law" = true) (k22 : PySem.W.keepIn K (.ref f22) = true)
    (z_all : PySem.W.nsIn K mainGlobals "all" = some none)
    (z_bool : PySem.W.nsIn K mainGlobals "bool" = some none)
    (z_enumerate : PySem.W.nsIn K mainGlobals "enumerate" = some none)
    (z_int : PySem.W.nsIn K mainGlobals "int" = some none)
    (z_isinstance : PySem.W.nsIn K mainGlobals "isinstance" = some none)
    (z_len : PySem.W.nsIn K mainGlobals "len" = some none)
    (z_list : PySem.W.nsIn K mainGlobals "list" = some none)
    (z_range : PySem.W.nsIn K mainGlobals "range" = some none)
    (z_set : PySem.W.nsIn K mainGlobals "set" = some none)
    (z_sorted : PySem.W.nsIn K mainGlobals "sorted" = some none)
    (z_str : PySem.W.nsIn K mainGlobals "str" = some none)
    (z_tuple : PySem.W.nsIn K mainGlobals "tuple" = some none)
    (z_zip : PySem.W.nsIn K mainGlobals "zip" = some none)
    {t_LETTERS : Tok} (y_LETTERS : PySem.W.nsIn K mainGlobals "LETTERS" = some (some (.str "abcdefghijklmnopqrstuvwxyz" t_LETTERS)))
    : ∃ fd : FuncData, (∀ (s : Shared) (v : Value), BindsTo s fd ⟨[v], []⟩ [("script", v)]) ∧ ∀ base : Heap, K.In base → base.Ns mainGlobals mg → FnOk l.prog w K mg base CX0 16 fa fd ["script"] (spLaw K) := by
  have e := hfa.symm.trans (PySem.W.mg_of X G a22)
  cases e
  have F0 := fun_mk (st := s_is_integer) l0 c0 k0
  have F1 := fun_mk (st := s_is_name) l1 c1 k1
  have F2 := fun_mk (st := s_mark_names) l2 c2 k2
  have F3 := fun_mk (st := s__law_cell) l3 c3 k3
  have F4 := fun_mk (st := s__law_is_integer) l4 c4 k4
  have F5 := fun_mk (st := s__law_same_bool) l5 c5 k5
  have F6 := fun_mk (st := s__law_other_value) l6 c6 k6
  have F7 := fun_mk (st := s__law_moved_item) l7 c7 k7
  have F8 := fun_mk (st := s__law_document) l8 c8 k8
  have F9 := fun_mk (st := s__law_start) l9 c9 k9
  have F10 := fun_mk (st := s__law_written) l10 c10 k10
  have F11 := fun_mk (st := s_is_item) l11 c11 k11
  have F12 := fun_mk (st := s_is_numbering) l12 c12 k12
  have F13 := fun_mk (st := s__law_digits) l13 c13 k13
  have F14 := fun_mk (st := s__law_is_item) l14 c14 k14
  have F15 := fun_mk (st := s__law_is_numbering) l15 c15 k15
  have F16 := fun_mk (st := s_is_document) l16 c16 k16
  have F17 := fun_mk (st := s__law_is_document) l17 c17 k17
  have F18 := fun_mk (st := s__law_paths) l18 c18 k18
  have F19 := fun_mk (st := s__law_any_value) l19 c19 k19
  have F20 := fun_mk (st := s__law_change_at) l20 c20 k20
  have F21 := fun_mk (st := s__law_mutated) l21 c21 k21
  have F22 := fun_mk (st := s_law) l22 c22 k22
  let T : Tb K mg :=
    { a_is_integer := f0, d_is_integer := _, F_is_integer := F0, g_is_integer := PySem.W.mg_of X G a0, b_is_integer := F0.binds (ps := ["value", "low", "high"]) fun _ _ _ _ _ _ us hl => match us, hl with | [_, _, _], _ => rfl,
      a_is_name := f1, d_is_name := _, F_is_name := F1, g_is_name := PySem.W.mg_of X G a1, b_is_name := F1.binds (ps := ["value"]) fun _ _ _ _ _ _ us hl => match us, hl with | [_], _ => rfl,
      a_mark_names := f2, d_mark_names := _, F_mark_names := F2, g_mark_names := PySem.W.mg_of X G a2, b_mark_names := F2.binds (ps := ["items"]) fun _ _ _ _ _ _ us hl => match us, hl with | [_], _ => rfl,
      a__law_cell := f3, d__law_cell := _, F__law_cell := F3, g__law_cell := PySem.W.mg_of X G a3, b__law_cell := F3.binds (ps := ["script", "index"]) fun _ _ _ _ _ _ us hl => match us, hl with | [_, _], _ => rfl,
      a__law_is_integer := f4, d__law_is_integer := _, F__law_is_integer := F4, g__law_is_integer := PySem.W.mg_of X G a4, b__law_is_integer := F4.binds (ps := ["value", "low", "high"]) fun _ _ _ _ _ _ us hl => match us, hl with | [_, _, _], _ => rfl,
      a__law_same_bool := f5, d__law_same_bool := _, F__law_same_bool := F5, g__law_same_bool := PySem.W.mg_of X G a5, b__law_same_bool := F5.binds (ps := ["result", "expected"]) fun _ _ _ _ _ _ us hl => match us, hl with | [_, _], _ => rfl,
      a__law_other_value := f6, d__law_other_value := _, F__law_other_value := F6, g__law_other_value := PySem.W.mg_of X G a6, b__law_other_value := F6.binds (ps := ["value", "digits"]) fun _ _ _ _ _ _ us hl => match us, hl with | [_, _], _ => rfl,
      a__law_moved_item := f7, d__law_moved_item := _, F__law_moved_item := F7, g__law_moved_item := PySem.W.mg_of X G a7, b__law_moved_item := F7.binds (ps := ["items", "index", "digits"]) fun _ _ _ _ _ _ us hl => match us, hl with | [_, _, _], _ => rfl,
      a__law_document := f8, d__law_document := _, F__law_document := F8, g__law_document := PySem.W.mg_of X G a8, b__law_document := F8.binds (ps := ["digits", "most"]) fun _ _ _ _ _ _ us hl => match us, hl with | [_, _], _ => rfl,
      a__law_start := f9, d__law_start := _, F__law_start := F9, g__law_start := PySem.W.mg_of X G a9, b__law_start := F9.binds (ps := ["digits", "document"]) fun _ _ _ _ _ _ us hl => match us, hl with | [_, _], _ => rfl,
      a__law_written := f10, d__law_written := _, F__law_written := F10, g__law_written := PySem.W.mg_of X G a10, b__law_written := F10.binds (ps := []) fun _ _ _ _ _ _ us hl => match us, hl with | [], _ => rfl,
      a_is_item := f11, d_is_item := _, F_is_item := F11, g_is_item := PySem.W.mg_of X G a11, b_is_item := F11.binds (ps := ["value"]) fun _ _ _ _ _ _ us hl => match us, hl with | [_], _ => rfl,
      a_is_numbering := f12, d_is_numbering := _, F_is_numbering := F12, g_is_numbering := PySem.W.mg_of X G a12, b_is_numbering := F12.binds (ps := ["document", "value"]) fun _ _ _ _ _ _ us hl => match us, hl with | [_, _], _ => rfl,
      a__law_digits := f13, d__law_digits := _, F__law_digits := F13, g__law_digits := PySem.W.mg_of X G a13, b__law_digits := F13.binds (ps := ["script", "index", "count", "base"]) fun _ _ _ _ _ _ us hl => match us, hl with | [_, _, _, _], _ => rfl,
      a__law_is_item := f14, d__law_is_item := _, F__law_is_item := F14, g__law_is_item := PySem.W.mg_of X G a14, b__law_is_item := F14.binds (ps := ["value"]) fun _ _ _ _ _ _ us hl => match us, hl with | [_], _ => rfl,
      a__law_is_numbering := f15, d__law_is_numbering := _, F__law_is_numbering := F15, g__law_is_numbering := PySem.W.mg_of X G a15, b__law_is_numbering := F15.binds (ps := ["document", "value"]) fun _ _ _ _ _ _ us hl => match us, hl with | [_, _], _ => rfl,
      a_is_document := f16, d_is_document := _, F_is_document := F16, g_is_document := PySem.W.mg_of X G a16, b_is_document := F16.binds (ps := ["value"]) fun _ _ _ _ _ _ us hl => match us, hl with | [_], _ => rfl,
      a__law_is_document := f17, d__law_is_document := _, F__law_is_document := F17, g__law_is_document := PySem.W.mg_of X G a17, b__law_is_document := F17.binds (ps := ["value"]) fun _ _ _ _ _ _ us hl => match us, hl with | [_], _ => rfl,
      a__law_paths := f18, d__law_paths := _, F__law_paths := F18, g__law_paths := PySem.W.mg_of X G a18, b__law_paths := F18.binds (ps := ["value"]) fun _ _ _ _ _ _ us hl => match us, hl with | [_], _ => rfl,
      a__law_any_value := f19, d__law_any_value := _, F__law_any_value := F19, g__law_any_value := PySem.W.mg_of X G a19, b__law_any_value := F19.binds (ps := ["digits", "depth"]) fun _ _ _ _ _ _ us hl => match us, hl with | [_, _], _ => rfl,
      a__law_change_at := f20, d__law_change_at := _, F__law_change_at := F20, g__law_change_at := PySem.W.mg_of X G a20, b__law_change_at := F20.binds (ps := ["value", "path", "digits"]) fun _ _ _ _ _ _ us hl => match us, hl with | [_, _, _], _ => rfl,
      a__law_mutated := f21, d__law_mutated := _, F__law_mutated := F21, g__law_mutated := PySem.W.mg_of X G a21, b__law_mutated := F21.binds (ps := ["value", "digits"]) fun _ _ _ _ _ _ us hl => match us, hl with | [_, _], _ => rfl,
      a_law := fa, d_law := _, F_law := F22, g_law := PySem.W.mg_of X G a22, b_law := F22.binds (ps := ["script"]) fun _ _ _ _ _ _ us hl => match us, hl with | [_], _ => rfl,
      n_all := PySem.W.mg_none_of X G z_all,
      n_bool := PySem.W.mg_none_of X G z_bool,
      n_enumerate := PySem.W.mg_none_of X G z_enumerate,
      n_int := PySem.W.mg_none_of X G z_int,
      n_isinstance := PySem.W.mg_none_of X G z_isinstance,
      n_len := PySem.W.mg_none_of X G z_len,
      n_list := PySem.W.mg_none_of X G z_list,
      n_range := PySem.W.mg_none_of X G z_range,
      n_set := PySem.W.mg_none_of X G z_set,
      n_sorted := PySem.W.mg_none_of X G z_sorted,
      n_str := PySem.W.mg_none_of X G z_str,
      n_tuple := PySem.W.mg_none_of X G z_tuple,
      n_zip := PySem.W.mg_none_of X G z_zip,
      t_LETTERS := t_LETTERS, c_LETTERS := PySem.W.mg_of X G y_LETTERS }
  exact ⟨PySem.W.fnOf "law" "law" (defArgs s_law) (defBody s_law) (defScope s_law) .none kV22 dc22 pm22 an22 cd22 ct22, fun s v => .of_eq rfl, fun base _ _ => ok_lawT T hlaw⟩
end PLaw
/-! ### part Ma_k01 -/
namespace PLaw
open PySem L2 PL

theorem written_b : (match M__law_written [] with | some (.opn W) => okVL 11 W && decide (W.length ≤ 100) | _ => false) = true := by decide +kernel
theorem M_written : ∃ W, M__law_written [] = some (.opn W) ∧ (∀ w ∈ W, okV 11 w = true) ∧ W.length ≤ 100 := by
  have h := written_b
  cases e : M__law_written [] with
  | none => rw [e] at h; simp at h
  | some d =>
    rw [e] at h
    cases d <;> simp at h
    rename_i W
    exact ⟨W, rfl, okVL_iff.mp h.1, h.2⟩
theorem val_turn {a0 a1 a2 a4 a5 a6 a7 a8 a9 a10 : Option D} {d : Doc} {v : D} (hd : d.length ≤ 1000) (hs : ∀ it ∈ d, strOk it.name = true) (h : okV 12 v = true) :
    L_law_0 [a0, a1, a2, some (docD d), a4, a5, a6, a7, a8, a9, a10, some v] = some (.nx [a0, a1, a2, some (docD d), a4, a5, a6, a7, a8, a9, a10, some v]) := by
  have e1 := M_isitem h
  have e2 := M_lisitem h
  obtain ⟨b, e3, e4⟩ := doc_same h
  obtain ⟨c, e5, e6⟩ := num_same hd hs h
  have hno := no_V h
  simp only [L_law_0]
  simp [hno, e1, e2, e3, e4, e5, e6, M_same]
theorem val_loop {a0 a1 a2 a4 a5 a6 a7 a8 a9 a10 : Option D} {d : Doc} (hd : d.length ≤ 1000) (hs : ∀ it ∈ d, strOk it.name = true) : ∀ (L : List D) (x : Option D), (∀ v ∈ L, okV 12 v = true) → ∃ y,
    forGo (tName 11) L_law_0 L [a0, a1, a2, some (docD d), a4, a5, a6, a7, a8, a9, a10, x] = some (.nx [a0, a1, a2, some (docD d), a4, a5, a6, a7, a8, a9, a10, y])
  | [], x, _ => ⟨x, rfl⟩
  | v :: L, x, h => by
    obtain ⟨y, ih⟩ := val_loop (a0 := a0) (a1 := a1) (a2 := a2) (a4 := a4) (a5 := a5) (a6 := a6) (a7 := a7) (a8 := a8) (a9 := a9) (a10 := a10) hd hs L (some v) fun w hw => h w (by simp [hw])
    exact ⟨y, by rw [forGo_cons (ρ1 := [a0, a1, a2, some (docD d), a4, a5, a6, a7, a8, a9, a10, some v]) (by simp) (val_turn hd hs (h v (by simp))), ih]⟩
theorem NM_v : ∀ s ∈ NM, strOk s = true ∧ s.length ≤ 1000 := by decide +kernel
theorem doc_names {d : Doc} {size most : Int} (h : DocOk d size most) : ∀ it ∈ d, strOk it.name = true ∧ it.name.length ≤ 1000 := fun it hi => by
  have hb : strOk "break" = true ∧ ("break" : Str).length ≤ 1000 := by decide +kernel
  have hm : ∀ s, s ∈ names d → strOk s = true ∧ s.length ≤ 1000 := fun s hs => NM_v s (h.inNM s hs)
  cases it with
  | text n => exact hb
  | brk => exact hb
  | ref s => exact hm s (h.wf.refs s hi)
  | mark s => exact hm s (by simp only [names, List.mem_map, List.mem_filter]; exact ⟨.mark s, ⟨hi, rfl⟩, rfl⟩)
theorem item_v {it : Item} (h : strOk it.name = true ∧ it.name.length ≤ 1000) : okV 1 (itemD it) = true ∧ nd (itemD it) ≤ 3 := by
  have t1 : strOk "text" = true ∧ ("text" : Str).length ≤ 1000 := by decide +kernel
  have t2 : strOk "mark" = true ∧ ("mark" : Str).length ≤ 1000 := by decide +kernel
  have t3 : strOk "ref" = true ∧ ("ref" : Str).length ≤ 1000 := by decide +kernel
  have t4 : strOk "break" = true ∧ ("break" : Str).length ≤ 1000 := by decide +kernel
  cases it with
  | text n => exact ⟨vT.mpr (by intro x hx; simp at hx; rcases hx with rfl | rfl; exact vS.mpr t1; exact vI), by simp [itemD, nd, ndL]⟩
  | mark s => exact ⟨vT.mpr (by intro x hx; simp at hx; rcases hx with rfl | rfl; exact vS.mpr t2; exact vS.mpr h), by simp [itemD, nd, ndL]⟩
  | ref s => exact ⟨vT.mpr (by intro x hx; simp at hx; rcases hx with rfl | rfl; exact vS.mpr t3; exact vS.mpr h), by simp [itemD, nd, ndL]⟩
  | brk => exact ⟨vT.mpr (by intro x hx; simp at hx; subst hx; exact vS.mpr t4), by simp [itemD, nd, ndL]⟩
theorem items_v : ∀ {d : Doc}, (∀ it ∈ d, strOk it.name = true ∧ it.name.length ≤ 1000) → (∀ x ∈ d.map itemD, okV 1 x = true) ∧ ndL (d.map itemD) ≤ 3 * d.length
  | [], _ => by simp [ndL]
  | it :: d, h => by
    obtain ⟨h1, h2⟩ := items_v (d := d) fun i hi => h i (by simp [hi])
    obtain ⟨h3, h4⟩ := item_v (h it (by simp))
    refine ⟨fun x hx => ?_, by simp only [List.map_cons, ndL, List.length_cons]; omega⟩
    rw [List.map_cons] at hx
    rcases List.mem_cons.mp hx with rfl | hx
    · exact h3
    · exact h1 x hx
theorem nums_v : ∀ ν : List Int, (∀ x ∈ ν.map D.int, okV 0 x = true) ∧ ndL (ν.map D.int) = ν.length
  | [] => by simp [ndL]
  | n :: ν => by
    obtain ⟨h1, h2⟩ := nums_v ν
    refine ⟨fun x hx => ?_, by simp only [List.map_cons, ndL, List.length_cons, h2, nd]; omega⟩
    rw [List.map_cons] at hx
    rcases List.mem_cons.mp hx with rfl | hx
    · exact vI
    · exact h1 x hx
theorem cut_mid {α : Type} {xs : List α} {a b : Nat} (h : a ≤ b) (hb : b ≤ xs.length) : cutD xs (some (a : Int)) (some (b : Int)) = (xs.drop a).take (b - a) := by
  unfold cutD
  rw [HT.sIx_nat, HT.sIx_nat, show min a xs.length = a by omega, show min b xs.length = b by omega]
def Vs (L : List D) : Prop := ∀ v ∈ L, okV 12 v = true
theorem k_turn {sc ix c4 c9 c10 c11 : Option D} {ds : List Int} {d : Doc} {ν : List Int} {V N : List D} {k : Nat} (hl : ds.length = 60) (h0 : ∀ x ∈ ds, 0 ≤ x) (hdl : d.length ≤ 21) (hd : ∀ it ∈ d, strOk it.name = true ∧ it.name.length ≤ 1000) (hν : ν.length ≤ 8) (hk : k < 10) (hV : Vs V) (hN : Vs N) (lV : V.length ≤ 1000) (lN : N.length ≤ 1000) :
    ∃ V' N' y9 y10, Vs V' ∧ Vs N' ∧ V'.length = V.length + 3 ∧ N'.length = N.length + 1 ∧ L_law_1 [sc, ix, some (.lst (ds.map .int)), some (docD d), c4, some (numD ν), some (.lst V), some (.opn N), some (.int (0 + (k : Nat))), c9, c10, c11] =
      some (.nx [sc, ix, some (.lst (ds.map .int)), some (docD d), c4, some (numD ν), some (.lst V'), some (.opn N'), some (.int (0 + (k : Nat))), y9, y10, c11]) := by
  have rowe : gSl (.lst (ds.map .int)) (some (5 * (k : Int))) (some (5 * (k : Int) + 5)) = some (.opn (((ds.drop (5 * k)).take 5).map .int)) := by
    have := cut_mid (xs := ds.map D.int) (a := 5 * k) (b := 5 * k + 5) (by omega) (by simp; omega)
    simp only [gSl]
    rw [show (5 * (k : Int)) = ((5 * k : Nat) : Int) by omega, show (((5 * k : Nat) : Int) + 5) = ((5 * k + 5 : Nat) : Int) by omega, this, show 5 * k + 5 - 5 * k = 5 by omega, List.map_take, List.map_drop]
  have rl : ((ds.drop (5 * k)).take 5).length = 5 := by simp; omega
  have r0 : ∀ x ∈ (ds.drop (5 * k)).take 5, 0 ≤ x := fun x hx => h0 x (List.mem_of_mem_drop (List.mem_of_mem_take hx))
  generalize (ds.drop (5 * k)).take 5 = row at *
  obtain ⟨i1, i2⟩ := items_v hd
  have vd : okV 2 (docD d) = true := vT.mpr i1
  have nddoc : nd (docD d) ≤ 64 := by simp only [docD, nd]; omega
  obtain ⟨n1, n2⟩ := nums_v ν
  have vn : okV 1 (numD ν) = true := vT.mpr n1
  have ndn : nd (numD ν) ≤ 9 := by simp only [numD, nd]; omega
  obtain ⟨m, m1, m2, m3⟩ := M_mutated vd (by omega) (by omega) rl r0
  have rr : (row.map D.int).reverse = row.reverse.map D.int := by rw [List.map_reverse]
  obtain ⟨m', m4, m5, m6⟩ := M_mutated (ds := row.reverse) m2 (by omega) (by omega) (by simp [rl]) (fun x hx => r0 x (List.mem_reverse.mp hx))
  obtain ⟨s, s1, s2, s3⟩ := M_mutated vn (by omega) (by omega) rl r0
  obtain ⟨a, a1, a2⟩ := any_val 12 (ds.drop k ++ ds.take k) 0 (by simp; omega) (fun x hx => h0 x (by
    rcases List.mem_append.mp hx with h | h
    · exact List.mem_of_mem_drop h
    · exact List.mem_of_mem_take h)) (by omega) (by omega)
  have a1 : M__law_any_value [.lst ((ds.drop k ++ ds.take k).map .int), .int 0] = some a := a1
  have g1 : gSl (.lst (ds.map .int)) (some (k : Int)) none = some (.opn ((ds.drop k).map .int)) := by
    simp only [gSl, cut_hi3 (xs := ds.map D.int) (k := k) (by simp; omega), List.map_drop]
  have g2 : gSl (.lst (ds.map .int)) none (some (k : Int)) = some (.opn ((ds.take k).map .int)) := by
    simp only [gSl, cut_lo3, List.map_take]
  have g3 : gAdd (.lst ((ds.drop k).map .int)) (.lst ((ds.take k).map .int)) = some (.opn ((ds.drop k ++ ds.take k).map .int)) := by
    have : small ((ds.drop k).length + (ds.take k).length) = true := small_le' (by simp; omega)
    simp only [gAdd, List.length_map, this, if_true, List.map_append]
  have g4 : gAdd (.lst V) (.lst [m, m', a]) = some (.opn (V ++ [m, m', a])) := by
    have : small (V.length + [m, m', a].length) = true := small_le' (by simp; omega)
    simp only [gAdd, this, if_true]
  have g5 : gMul (.int 5) (.int (k : Int)) = some (.int (5 * (k : Int))) := mul_i (.inl (by decide))
  have q1 := no_V m2
  have q2 := no_V m5
  have q3 := no_V s2
  have q4 := no_V a2
  have lN' : N.length < 16777216 := by omega
  refine ⟨V ++ [m, m', a], N ++ [s], some (.lst (row.map .int)), some m, fun v hv => ?_, fun v hv => ?_, by simp, by simp, ?_⟩
  · rcases List.mem_append.mp hv with hv | hv
    · exact hV v hv
    · simp at hv
      rcases hv with rfl | rfl | rfl
      · exact okV_le m2 (by omega)
      · exact okV_le m5 (by omega)
      · exact okV_le a2 (by omega)
  · rcases List.mem_append.mp hv with hv | hv
    · exact hN v hv
    · simp at hv
      subst hv
      exact okV_le s2 (by omega)
  · simp only [L_law_1, Int.zero_add]
    simp [g5, rowe, m1, rr, m4, q1, q2, q3, q4, g1, g2, g3, a1, g4, s1, lN', -List.map_drop, -List.map_take, -List.map_append, -List.map_reverse]
theorem i_turn {ns : List Int} {i : Nat} {x2 x3 x4 x5 x6 x7 x8 x9 x10 x11 : Option D} (hi : i < 4) : ∃ y2 y3 y4 y5 y6 y7 y8 y9 y10 y11,
    L_law_2 [some (.scr ns), some (.int (i : Nat)), x2, x3, x4, x5, x6, x7, x8, x9, x10, x11] = some (.nx [some (.scr ns), some (.int (i : Nat)), y2, y3, y4, y5, y6, y7, y8, y9, y10, y11]) := by
  obtain ⟨ds, d1, d2, d3⟩ := M_digits (ns := ns) (i := (i : Int)) (count := 60) (base := 27720) (by omega) (by omega) (by omega)
  have hl : ds.length = 60 := by omega
  have h0 : ∀ x ∈ ds, 0 ≤ x := fun x hx => (d3 x hx).1
  obtain ⟨d, size, e1, e2⟩ := M_doc (ds := ds) (most := 4) (by omega) h0 (by omega)
  have hn4 : (names d).length ≤ 4 := by have := e2.nm; omega
  have hdl := e2.len
  have hd1 : 1 ≤ d.length := by have := names_len d; have := e2.n1; omega
  have hd := doc_names e2
  obtain ⟨ν, s1, s2, s3⟩ := M_start (ds := ds.drop 50) (d := d) (fun x hx => by have := d3 x (List.mem_of_mem_drop hx); omega) (by rw [List.length_drop]; omega) (by omega)
  have c1 := dig_drop (ds := ds) (k := 50) (by omega) (by omega)
  rw [show (50 : Int).toNat = 50 from rfl] at c1
  obtain ⟨i1, i2⟩ := items_v hd
  have vd : okV 2 (docD d) = true := vT.mpr i1
  obtain ⟨n1, n2⟩ := nums_v ν
  have vn : okV 1 (numD ν) = true := vT.mpr n1
  -- the values
  have a1 : gSl (docD d) (some 1) none = some (docD (d.drop 1)) := by
    simp only [docD, gSl]
    have := cut_hi3 (xs := d.map itemD) (k := 1) (by simpa using hd1)
    have e : cutD (d.map itemD) (some 1) none = (d.map itemD).drop 1 := this
    rw [e, List.map_drop]
  have a2 : gSl (docD d) none (some 1) = some (docD (d.take 1)) := by
    simp only [docD, gSl]
    have e : cutD (d.map itemD) none (some 1) = (d.map itemD).take 1 := cut_lo3 (k := 1)
    rw [e, List.map_take]
  have a3 : gAdd (docD d) (docD (d.take 1)) = some (docD (d ++ d.take 1)) := by
    have : small (d.length + (d.take 1).length) = true := small_le' (by simp; omega)
    simp only [docD, gAdd, List.length_map, this, if_true, List.map_append]
  have a4 : gRev (docD d) = some (docD d.reverse) := by simp only [docD, gRev, List.map_reverse]
  have a5 : gList (docD d) = some (.opn (d.map itemD)) := rfl
  have b1 : gSl (numD ν) (some 1) none = some (numD (ν.drop 1)) := by
    simp only [numD, gSl]
    have := cut_hi3 (xs := ν.map D.int) (k := 1) (by simp; have := e2.n1; omega)
    have e : cutD (ν.map D.int) (some 1) none = (ν.map D.int).drop 1 := this
    rw [e, List.map_drop]
  have b2' : gAdd (numD ν) (.tup [.int 1]) = some (numD (ν ++ [1])) := gAdd_num (b := [1]) (by simp; omega)
  have b3' : gList (numD ν) = some (.opn (ν.map .int)) := rfl
  have b4 : gAdd (.tup [.int 0]) (numD (ν.drop 1)) = some (numD (0 :: ν.drop 1)) := gAdd_num (a := [0]) (by simp; omega)
  have b5 : gAdd (.tup [.int 1000000001]) (numD (ν.drop 1)) = some (numD (1000000001 :: ν.drop 1)) := gAdd_num (a := [1000000001]) (by simp; omega)
  have pw : gPow (.int 10) (.int 9) = some (.int 1000000000) := rfl
  have vdoc : ∀ e : Doc, (∀ it ∈ e, it ∈ d) → okV 12 (docD e) = true := fun e he => okV_le (n := 2) (vT.mpr (items_v fun it hi => hd it (he it hi)).1) (by omega)
  have vnum : ∀ μ : List Int, okV 12 (numD μ) = true := fun μ => okV_le (n := 1) (vT.mpr (nums_v μ).1) (by omega)
  have hV : Vs [docD d, docD (d.drop 1), docD (d ++ d.take 1), docD d.reverse, .lst (d.map itemD)] := fun v hv => by
    simp only [List.mem_cons, List.not_mem_nil, or_false] at hv
    rcases hv with rfl | rfl | rfl | rfl | rfl
    · exact vdoc d fun _ h => h
    · exact vdoc _ fun _ h => List.mem_of_mem_drop h
    · exact vdoc _ fun _ h => by
        rcases List.mem_append.mp h with h | h
        · exact h
        · exact List.mem_of_mem_take h
    · exact vdoc _ fun _ h => List.mem_reverse.mp h
    · exact okV_le (n := 2) (vL.mpr i1) (by omega)
  have hN : Vs [numD ν, numD (ν.drop 1), numD (ν ++ [1]), .lst (ν.map .int), numD (0 :: ν.drop 1), numD (1000000001 :: ν.drop 1), .non, .tup []] := fun v hv => by
    simp only [List.mem_cons, List.not_mem_nil, or_false] at hv
    rcases hv with rfl | rfl | rfl | rfl | rfl | rfl | rfl | rfl
    · exact vnum _
    · exact vnum _
    · exact vnum _
    · exact okV_le (n := 1) (vL.mpr n1) (by omega)
    · exact vnum _
    · exact vnum _
    · exact vN
    · exact vT.mpr (by simp)
  obtain ⟨ρ1, r1, V, N, z8, z9, z10, rfl, hV', hN', lV, lN⟩ := forGo_typed (t := tName 8) (b := L_law_1) (fun k : Nat => D.int (0 + (k : Nat)))
    (fun j ρ => ∃ (V N : List D) (z8 z9 z10 : Option D), ρ = [some (.scr ns), some (.int (i : Nat)), some (.lst (ds.map .int)), some (docD d), some (.int size), some (numD ν), some (.lst V), some (.opn N), z8, z9, z10, x11] ∧ Vs V ∧ Vs N ∧ V.length = 5 + 3 * j ∧ N.length = 8 + j)
    (xs := List.range 10) (ρ := [some (.scr ns), some (.int (i : Nat)), some (.lst (ds.map .int)), some (docD d), some (.int size), some (numD ν), some (.lst [docD d, docD (d.drop 1), docD (d ++ d.take 1), docD d.reverse, .lst (d.map itemD)]), some (.opn [numD ν, numD (ν.drop 1), numD (ν ++ [1]), .lst (ν.map .int), numD (0 :: ν.drop 1), numD (1000000001 :: ν.drop 1), .non, .tup []]), x8, x9, x10, x11])
    ⟨_, _, _, _, _, rfl, hV, hN, rfl, rfl⟩ (by
      rintro j k ρ hj ⟨V, N, z8, z9, z10, rfl, q1, q2, q3, q4⟩
      obtain ⟨rfl, hj⟩ := range_get hj
      obtain ⟨V', N', y9, y10, g1, g2, g3, g4, g5⟩ := k_turn (d := d) (ν := ν) (sc := some (.scr ns)) (ix := some (.int (i : Nat))) (c4 := some (.int size)) (c9 := z9) (c10 := z10) (c11 := x11) (k := k) hl h0 hdl hd (by omega) hj q1 q2 (by omega) (by omega)
      exact ⟨_, _, by simp; rfl, by simpa using g5, V', N', _, _, _, rfl, g1, g2, by omega, by omega⟩)
  simp only [List.length_range] at lV lN
  obtain ⟨W, w1, w2, w3⟩ := M_written
  have e6 : rng1 [.int 10] = _ := rng1_eq (n := 10) (by omega)
  have t1 : gAdd (.lst W) (.lst V) = some (.opn (W ++ V)) := by
    have : small (W.length + V.length) = true := small_le' (by omega)
    simp only [gAdd, this, if_true]
  have t2 : gAdd (.lst (W ++ V)) (.lst N) = some (.opn (W ++ V ++ N)) := by
    have : small ((W ++ V).length + N.length) = true := small_le' (by simp; omega)
    simp only [gAdd, this, if_true]
  obtain ⟨y11, hlast⟩ := val_loop (a0 := some (.scr ns)) (a1 := some (.int (i : Nat))) (a2 := some (.lst (ds.map .int))) (a4 := some (.int size)) (a5 := some (numD ν)) (a6 := some (.lst V)) (a7 := some (.opn N)) (a8 := z8) (a9 := z9) (a10 := z10) (d := d) (by omega) (fun it h => (hd it h).1) (W ++ V ++ N) x11 (fun v hv => by
    rcases List.mem_append.mp hv with hv | hv
    · rcases List.mem_append.mp hv with hv | hv
      · exact okV_le (w2 v hv) (by omega)
      · exact hV' v hv
    · exact hN' v hv)
  generalize W ++ V ++ N = WVN at *
  generalize W ++ V = WV at *
  simp only [Int.zero_add] at r1 e6
  refine ⟨some (.lst (ds.map .int)), some (docD d), some (.int size), some (numD ν), some (.lst V), some (.opn N), z8, z9, z10, y11, ?_⟩
  simp only [L_law_2]
  generalize ν.drop 1 = ν1 at *
  generalize d.drop 1 = dd1 at *
  generalize d ++ d.take 1 = dd2 at *
  generalize d.take 1 = dd3 at *
  generalize d.reverse = dd4 at *
  simp [d1, e1, c1, s1, a1, a2, a3, a4, a5, b1, b2', b3', b4, b5, pw, e6, r1, w1, t1, t2, hlast, -List.map_drop]
theorem law_true : ∀ ns : List Int, ns.length ≤ 63 → M_law [.scr ns] = some (.bl true) := fun ns _ => by
  obtain ⟨ρ1, r1, x1, x2, x3, x4, x5, x6, x7, x8, x9, x10, x11, rfl⟩ := forGo_typed (t := tName 1) (b := L_law_2) (fun k : Nat => D.int (k : Nat))
    (fun j ρ => ∃ x1 x2 x3 x4 x5 x6 x7 x8 x9 x10 x11 : Option D, ρ = [some (.scr ns), x1, x2, x3, x4, x5, x6, x7, x8, x9, x10, x11])
    (xs := [0, 1, 2, 3]) (ρ := [some (.scr ns), none, none, none, none, none, none, none, none, none, none, none]) ⟨_, _, _, _, _, _, _, _, _, _, _, rfl⟩ (by
      rintro j k ρ hj ⟨x1, x2, x3, x4, x5, x6, x7, x8, x9, x10, x11, rfl⟩
      have hk : k < 4 := by
        have := List.mem_of_getElem? hj
        simp at this; omega
      obtain ⟨y2, y3, y4, y5, y6, y7, y8, y9, y10, y11, h⟩ := i_turn (ns := ns) (i := k) (x2 := x2) (x3 := x3) (x4 := x4) (x5 := x5) (x6 := x6) (x7 := x7) (x8 := x8) (x9 := x9) (x10 := x10) (x11 := x11) hk
      exact ⟨_, _, by simp, h, _, _, _, _, _, _, _, _, _, _, _, rfl⟩)
  refine run_rt ?_
  simp only [List.map_cons, List.map_nil] at r1
  have r2 : forGo (tName 1) L_law_2 [.int 0, .int 1, .int 2, .int 3] [some (.scr ns), none, none, none, none, none, none, none, none, none, none, none] = some (.nx [some (.scr ns), x1, x2, x3, x4, x5, x6, x7, x8, x9, x10, x11]) := r1
  simp [B_law, r2]
end PLaw
/-! ### part Fi -/
open PySem PySem.W PyProof.Rows
set_option maxHeartbeats 0 in
theorem PySem.Challenge.cw_rerunpages_k01_item_document_and_numberi_holds : PySem.Challenge.rw_rerunpages_k01_item_document_and_numberi.Holds := by
  w_on; o_law; k_head; (case hw => w_witness2)
  k_fill
  refine L2.walk_of (l := PySem.Challenge.rw_rerunpages_k01_item_document_and_numberi) (n := 63) (k := 16) (x := "script") (CX := fun _ => L2.CX0) (sp := fun w => PLaw.spLaw _) rfl (by decide) rfl ⟨rfl, by decide, by decide⟩ (fun w h Y => PySem.W.kIn_of Y) ?F (fun _ H a ns hl hO hS => ⟨a, ns, rfl, PL.fzl_of_only hO hS, hl, fun _ => rfl⟩) (fun _ _ _ _ _ h => h)
  case F =>
    intro w mg fa h KX G hmg
    have hlaw_main := PLaw.law_true
    refine' PLaw.all_mk KX G hmg hlaw_main ?a0 ?l0 ?c0 ?k0 ?a1 ?l1 ?c1 ?k1 ?a2 ?l2 ?c2 ?k2 ?a3 ?l3 ?c3 ?k3 ?a4 ?l4 ?c4 ?k4 ?a5 ?l5 ?c5 ?k5 ?a6 ?l6 ?c6 ?k6 ?a7 ?l7 ?c7 ?k7 ?a8 ?l8 ?c8 ?k8 ?a9 ?l9 ?c9 ?k9 ?a10 ?l10 ?c10 ?k10 ?a11 ?l11 ?c11 ?k11 ?a12 ?l12 ?c12 ?k12 ?a13 ?l13 ?c13 ?k13 ?a14 ?l14 ?c14 ?k14 ?a15 ?l15 ?c15 ?k15 ?a16 ?l16 ?c16 ?k16 ?a17 ?l17 ?c17 ?k17 ?a18 ?l18 ?c18 ?k18 ?a19 ?l19 ?c19 ?k19 ?a20 ?l20 ?c20 ?k20 ?a21 ?l21 ?c21 ?k21 ?a22 ?l22 ?c22 ?k22 ?z_all ?z_bool ?z_enumerate ?z_int ?z_isinstance ?z_len ?z_list ?z_range ?z_set ?z_sorted ?z_str ?z_tuple ?z_zip ?y_LETTERS
    (case a0 => k_is); (case l0 => k_is); (case c0 => k_is); (case k0 => k_is); (case a1 => k_is); (case l1 => k_is); (case c1 => k_is); (case k1 => k_is); (case a2 => k_is); (case l2 => k_is); (case c2 => k_is); (case k2 => k_is); (case a3 => k_is); (case l3 => k_is); (case c3 => k_is); (case k3 => k_is); (case a4 => k_is); (case l4 => k_is); (case c4 => k_is); (case k4 => k_is); (case a5 => k_is); (case l5 => k_is); (case c5 => k_is); (case k5 => k_is); (case a6 => k_is); (case l6 => k_is); (case c6 => k_is); (case k6 => k_is); (case a7 => k_is); (case l7 => k_is); (case c7 => k_is); (case k7 => k_is); (case a8 => k_is); (case l8 => k_is); (case c8 => k_is); (case k8 => k_is); (case a9 => k_is); (case l9 => k_is); (case c9 => k_is); (case k9 => k_is); (case a10 => k_is); (case l10 => k_is); (case c10 => k_is); (case k10 => k_is); (case a11 => k_is); (case l11 => k_is); (case c11 => k_is); (case k11 => k_is); (case a12 => k_is); (case l12 => k_is); (case c12 => k_is); (case k12 => k_is); (case a13 => k_is); (case l13 => k_is); (case c13 => k_is); (case k13 => k_is); (case a14 => k_is); (case l14 => k_is); (case c14 => k_is); (case k14 => k_is); (case a15 => k_is); (case l15 => k_is); (case c15 => k_is); (case k15 => k_is); (case a16 => k_is); (case l16 => k_is); (case c16 => k_is); (case k16 => k_is); (case a17 => k_is); (case l17 => k_is); (case c17 => k_is); (case k17 => k_is); (case a18 => k_is); (case l18 => k_is); (case c18 => k_is); (case k18 => k_is); (case a19 => k_is); (case l19 => k_is); (case c19 => k_is); (case k19 => k_is); (case a20 => k_is); (case l20 => k_is); (case c20 => k_is); (case k20 => k_is); (case a21 => k_is); (case l21 => k_is); (case c21 => k_is); (case k21 => k_is); (case a22 => k_is); (case l22 => k_is); (case c22 => k_is); (case k22 => k_is); (case z_all => k_is); (case z_bool => k_is); (case z_enumerate => k_is); (case z_int => k_is); (case z_isinstance => k_is); (case z_len => k_is); (case z_list => k_is); (case z_range => k_is); (case z_set => k_is); (case z_sorted => k_is); (case z_str => k_is); (case z_tuple => k_is); (case z_zip => k_is); (case y_LETTERS => k_is)
