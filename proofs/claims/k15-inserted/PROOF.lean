import PyProof.Rows.All
import HandS.EndOwn
import HandS.ForMost
import HandS.Zip
import HandS.Style
import HandS.IsInst
import HandS.TupMul
import HandS.TupAny
import HandS.Conv
import HandS.Walk
import HandS.GenList
import HandS.DictComp
import HandS.Wide
import KE.KEqNest
import HandS.Deep
import HandS.Strs
import KE.GoesZip
import KE.GoesMore
import KE.GoesEnum
import HandS.SortInts
import HandS.TupSets
import HandS.Iter
import KE.KSuper
import KE.GoesCell
import HandS.MakeKwOnly
import HandS.Star
import HandS.Property
import HandS.ClsMeth
import HandS.More
import HandS.WordsExc
import HandS.Lambda
import HandS.ExcCtx
import HandS.HotCalls
import HandS.ExcIs
import HandS.Text
import OpenK.KOps
import HandS.Set
import HandS.SetFor
import PySem.Challenge.RW_rerunpages_k15_items_inserted_and_remove
set_option Elab.async false
set_option linter.all false
set_option maxRecDepth 100000
set_option maxHeartbeats 4000000
/-! ### part PL1 -/
namespace PL
open PySem PySem.Spec PyProof.Rows L2

/-! ### data -/
inductive D where
  | non | bl (b : Bool) | int (i : Int) | str (x : Str) | tup (xs : List D) | lst (xs : List D) | opn (xs : List D) | scr (ns : List Int)
  | dic (kvs : List (Key × D))
  /-- an object of its slot's own; o: its address, where it is known; c: its class; its attributes row, room, known -/
  | obj (o : Option Addr) (c : Addr) (ds : List D)
  /-- a reference as such -/
  | adr (a : Addr)

/-- a list that is known to be left alone -/
def FzL (K : PySem.W.Frag) (H : Hp) (a : Addr) (xs : List V) : Prop := (∃ o, H a = some (.frz o (.lst xs))) ∨
    ∃ (o : Obj) (its : Array Value) (n : Nat), K.lookup a = some o ∧ o.cls = .type "list" ∧ o.dict = none ∧ o.data = .seq its n ∧ its.size ≤ sizeLine ∧ Vals xs its.toList
theorem FzL.seq {K : PySem.W.Frag} {H : Hp} {a : Addr} {xs : List V} (h : FzL K H a xs) : SqL K H a xs := by
  rcases h with ⟨o, h⟩ | h
  · exact .inl (.inr ⟨o, h⟩)
  · exact .inr h

mutual
def RepF (K : PySem.W.Frag) (H : Hp) : D → V → Prop
  | .non, v => v = .non
  | .bl b, v => v = .bl b
  | .int i, v => v = .int i
  | .str x, v => v = .str x
  | .tup ds, v => ∃ a vs, v = .ref a ∧ SqT K H a vs ∧ RepL K H ds vs
  | .lst ds, v => ∃ a vs o, v = .ref a ∧ H a = some (.frz o (.lst vs)) ∧ RepL K H ds vs
  | .opn _, _ => False
  | .obj _ _ _, _ => False
  | .adr a, v => v = .ref a
  | .scr ns, v => ∃ a, v = .ref a ∧ FzL K H a (ns.map V.int)
  | .dic kvs, v => ∃ a ws o, v = .ref a ∧ H a = some (.frz o (.dK ws)) ∧ RepK K H kvs ws
def RepL (K : PySem.W.Frag) (H : Hp) : List D → List V → Prop
  | [], vs => vs = []
  | d :: ds, vs => ∃ v r, vs = v :: r ∧ RepF K H d v ∧ RepL K H ds r
def RepK (K : PySem.W.Frag) (H : Hp) : List (Key × D) → List (Key × V) → Prop
  | [], ws => ws = []
  | (k, d) :: ds, ws => ∃ v r, ws = (k, v) :: r ∧ RepF K H d v ∧ RepK K H ds r
end

/-- what is tracked for good stays -/
structure Ext (H H' : Hp) : Prop where
  tup : ∀ a xs, H a = some (.tup xs) → H' a = some (.tup xs)
  frz : ∀ a o u, H a = some (.frz o u) → H' a = some (.frz o u)
theorem Ext.of {H H' : Hp} (s : Same H H') : Ext H H' := ⟨fun a xs h => s a _ h, fun a o u h => s a _ h⟩
theorem Ext.trans {H H1 H2 : Hp} (a : Ext H H1) (b : Ext H1 H2) : Ext H H2 := ⟨fun c xs h => b.tup c xs (a.tup c xs h), fun c o u h => b.frz c o u (a.frz c o u h)⟩
theorem Ext.refl (H : Hp) : Ext H H := ⟨fun _ _ h => h, fun _ _ _ h => h⟩
theorem Ext.updO {H : Hp} {a : Addr} {o : HO} (h : Mut (H a) ∨ H a = none) : Ext H (upd H a o) := by
  refine ⟨fun b xs e => ?_, fun b ob u e => ?_⟩
  · rw [upd_ne]; exact e
    rintro rfl
    rcases h with h | h
    · rw [e] at h; exact h
    · rw [e] at h; cases h
  · rw [upd_ne]; exact e
    rintro rfl
    rcases h with h | h
    · rw [e] at h; exact h
    · rw [e] at h; cases h
theorem Ext.sqT {K : PySem.W.Frag} {H H' : Hp} {a : Addr} {xs : List V} (e : Ext H H') (h : SqT K H a xs) : SqT K H' a xs := by
  rcases h with (h | ⟨o, h⟩) | h
  · exact .inl (.inl (e.tup _ _ h))
  · exact .inl (.inr ⟨o, e.frz _ _ _ h⟩)
  · exact .inr h
theorem Ext.fzL {K : PySem.W.Frag} {H H' : Hp} {a : Addr} {xs : List V} (e : Ext H H') (h : FzL K H a xs) : FzL K H' a xs := by
  rcases h with ⟨o, h⟩ | h
  · exact .inl ⟨o, e.frz _ _ _ h⟩
  · exact .inr h
mutual
theorem RepF.ext {K : PySem.W.Frag} {H H' : Hp} (e : Ext H H') : ∀ (d : D) (v : V), RepF K H d v → RepF K H' d v
  | .non, v, h => by simpa only [RepF] using h
  | .bl b, v, h => by simpa only [RepF] using h
  | .int i, v, h => by simpa only [RepF] using h
  | .str x, v, h => by simpa only [RepF] using h
  | .tup ds, v, h => by
    simp only [RepF] at h ⊢
    obtain ⟨a, vs, h1, h2, h3⟩ := h
    exact ⟨a, vs, h1, e.sqT h2, RepL.ext e ds vs h3⟩
  | .lst ds, v, h => by
    simp only [RepF] at h ⊢
    obtain ⟨a, vs, o, h1, h2, h3⟩ := h
    exact ⟨a, vs, o, h1, e.frz _ _ _ h2, RepL.ext e ds vs h3⟩
  | .opn ds, v, h => by simp only [RepF] at h
  | .obj _ _ _, v, h => by simp only [RepF] at h
  | .adr a, v, h => by simpa only [RepF] using h
  | .scr ns, v, h => by
    simp only [RepF] at h ⊢
    obtain ⟨a, h1, h2⟩ := h
    exact ⟨a, h1, e.fzL h2⟩
  | .dic kvs, v, h => by
    simp only [RepF] at h ⊢
    obtain ⟨a, vs, o, h1, h2, h3⟩ := h
    exact ⟨a, vs, o, h1, e.frz _ _ _ h2, RepK.ext e kvs vs h3⟩
theorem RepL.ext {K : PySem.W.Frag} {H H' : Hp} (e : Ext H H') : ∀ (ds : List D) (vs : List V), RepL K H ds vs → RepL K H' ds vs
  | [], vs, h => by simpa only [RepL] using h
  | d :: ds, vs, h => by
    simp only [RepL] at h ⊢
    obtain ⟨v, r, h1, h2, h3⟩ := h
    exact ⟨v, r, h1, RepF.ext e d v h2, RepL.ext e ds r h3⟩
theorem RepK.ext {K : PySem.W.Frag} {H H' : Hp} (e : Ext H H') : ∀ (ds : List (Key × D)) (vs : List (Key × V)), RepK K H ds vs → RepK K H' ds vs
  | [], vs, h => by simpa only [RepK] using h
  | (k, d) :: ds, vs, h => by
    simp only [RepK] at h ⊢
    obtain ⟨v, r, h1, h2, h3⟩ := h
    exact ⟨v, r, h1, RepF.ext e d v h2, RepK.ext e ds r h3⟩
end

section
variable {K : PySem.W.Frag} {H H' : Hp}
theorem RepL.length : ∀ {ds : List D} {vs : List V}, RepL K H ds vs → vs.length = ds.length
  | [], vs, h => by simp only [RepL] at h; subst h; rfl
  | d :: ds, vs, h => by
    simp only [RepL] at h
    obtain ⟨v, r, rfl, _, h3⟩ := h
    simp [RepL.length h3]
theorem RepL.get : ∀ {ds : List D} {vs : List V} {i : Nat} {d : D}, RepL K H ds vs → ds[i]? = some d → ∃ v, vs[i]? = some v ∧ RepF K H d v
  | [], _, _, _, _, e => by simp at e
  | x :: ds, vs, 0, d, h, e => by
    simp only [RepL] at h
    obtain ⟨v, r, rfl, h2, _⟩ := h
    simp at e; subst e
    exact ⟨v, rfl, h2⟩
  | x :: ds, vs, i + 1, d, h, e => by
    simp only [RepL] at h
    obtain ⟨v, r, rfl, _, h3⟩ := h
    obtain ⟨u, h4, h5⟩ := RepL.get (i := i) h3 (by simpa using e)
    exact ⟨u, by simpa using h4, h5⟩
theorem RepL.got {ds : List D} {vs : List V} {i : Nat} {v : V} (h : RepL K H ds vs) (e : vs[i]? = some v) : ∃ d, ds[i]? = some d ∧ RepF K H d v := by
  have hl := h.length
  have hi : i < ds.length := by
    rw [← hl]; exact (List.getElem?_eq_some_iff.mp e).1
  obtain ⟨u, h1, h2⟩ := h.get (List.getElem?_eq_getElem hi)
  rw [e] at h1; cases h1
  exact ⟨_, List.getElem?_eq_getElem hi, h2⟩
theorem RepL.append : ∀ {ds es : List D} {vs us : List V}, RepL K H ds vs → RepL K H es us → RepL K H (ds ++ es) (vs ++ us)
  | [], es, vs, us, h, g => by simp only [RepL] at h; subst h; exact g
  | d :: ds, es, vs, us, h, g => by
    simp only [RepL, List.cons_append] at h ⊢
    obtain ⟨v, r, rfl, h2, h3⟩ := h
    exact ⟨v, r ++ us, rfl, h2, RepL.append h3 g⟩
theorem RepL.one {d : D} {v : V} (h : RepF K H d v) : RepL K H [d] [v] := by
  simp only [RepL]; exact ⟨v, [], rfl, h, rfl⟩
theorem RepL.nil : RepL K H [] [] := by simp only [RepL]
theorem RepL.cons {d : D} {v : V} {ds : List D} {vs : List V} (h : RepF K H d v) (g : RepL K H ds vs) : RepL K H (d :: ds) (v :: vs) := by
  simp only [RepL]; exact ⟨v, vs, rfl, h, g⟩
theorem RepL.take : ∀ {ds : List D} {vs : List V} (n : Nat), RepL K H ds vs → RepL K H (ds.take n) (vs.take n)
  | _, _, 0, _ => by simp only [List.take_zero]; exact RepL.nil
  | [], vs, n + 1, h => by simp only [RepL] at h; subst h; exact RepL.nil
  | d :: ds, vs, n + 1, h => by
    simp only [RepL] at h
    obtain ⟨v, r, rfl, h2, h3⟩ := h
    exact RepL.cons h2 (RepL.take n h3)
theorem RepL.drop : ∀ {ds : List D} {vs : List V} (n : Nat), RepL K H ds vs → RepL K H (ds.drop n) (vs.drop n)
  | _, _, 0, h => h
  | [], vs, n + 1, h => by simp only [RepL] at h; subst h; exact RepL.nil
  | d :: ds, vs, n + 1, h => by
    simp only [RepL] at h
    obtain ⟨v, r, rfl, _, h3⟩ := h
    exact RepL.drop n h3
theorem RepL.reverse : ∀ {ds : List D} {vs : List V}, RepL K H ds vs → RepL K H ds.reverse vs.reverse
  | [], vs, h => by simp only [RepL] at h; subst h; exact RepL.nil
  | d :: ds, vs, h => by
    simp only [RepL] at h
    obtain ⟨v, r, rfl, h2, h3⟩ := h
    rw [List.reverse_cons, List.reverse_cons]
    exact (RepL.reverse h3).append (RepL.one h2)
theorem RepL.set : ∀ {ds : List D} {vs : List V} (n : Nat) {d : D} {v : V}, RepL K H ds vs → RepF K H d v → RepL K H (ds.set n d) (vs.set n v)
  | [], vs, n, d, v, h, _ => by simp only [RepL] at h; subst h; exact RepL.nil
  | x :: ds, vs, 0, d, v, h, g => by
    simp only [RepL] at h
    obtain ⟨u, r, rfl, h2, h3⟩ := h
    exact RepL.cons g h3
  | x :: ds, vs, n + 1, d, v, h, g => by
    simp only [RepL] at h
    obtain ⟨u, r, rfl, h2, h3⟩ := h
    exact RepL.cons h2 (RepL.set n h3 g)
theorem RepL.flat : ∀ {ds : List D} {vs : List V} (n : Nat), RepL K H ds vs → RepL K H (List.replicate n ds).flatten (List.replicate n vs).flatten
  | _, _, 0, _ => RepL.nil
  | _, _, n + 1, h => by
    rw [List.replicate_succ, List.replicate_succ, List.flatten_cons, List.flatten_cons]
    exact h.append (RepL.flat n h)
theorem RepL.mem {ds : List D} {vs : List V} {v : V} (h : RepL K H ds vs) (e : v ∈ vs) : ∃ d, d ∈ ds ∧ RepF K H d v := by
  obtain ⟨i, hi⟩ := List.getElem?_of_mem e
  obtain ⟨d, h1, h2⟩ := h.got hi
  exact ⟨d, List.mem_of_getElem? h1, h2⟩
end

/-! ### modes -/
/-- readable now -/
def FN : List Str := ["row", "room", "known"]
/-- an own class whose objects have these attributes -/
structure OkCls (K : PySem.W.Frag) (c : Addr) : Prop where
  cls : Cls K c
  no : ∀ f ∈ FN, NoAttr K c f
def RepO (K : PySem.W.Frag) (H : Hp) (o : Option Addr) (c : Addr) (ds : List D) (v : V) : Prop :=
  ∃ a dx vs, v = .ref a ∧ (∀ b, o = some b → a = b) ∧ OkCls K c ∧ vs.length ≤ 3 ∧ H a = some (.ins c dx (FN.zip vs)) ∧ RepL K H ds vs
def RepW (K : PySem.W.Frag) (H : Hp) (d : D) (v : V) : Prop := match d with
  | .obj o c ds => RepO K H o c ds v
  | .lst ds => ∃ a vs, v = .ref a ∧ Rd H a (.lst vs) ∧ RepL K H ds vs
  | d => RepF K H d v
/-- frozen, or a list that is new since H0 -/
def RepM (K : PySem.W.Frag) (H0 H : Hp) (d : D) (v : V) : Prop := match d with
  | .opn ds => ∃ a vs, v = .ref a ∧ H0 a = none ∧ H a = some (.lst vs) ∧ RepL K H ds vs
  | d => RepF K H d v
/-- a slot: frozen, or a list of its own -/
def RepS (K : PySem.W.Frag) (H : Hp) (d : D) (v : V) : Prop := match d with
  | .obj o c ds => RepO K H o c ds v
  | .opn ds => ∃ a vs, v = .ref a ∧ H a = some (.lst vs) ∧ RepL K H ds vs
  | d => RepF K H d v
theorem RepO.same {K : PySem.W.Frag} {H H' : Hp} (e : Same H H') {o : Option Addr} {c : Addr} {ds : List D} {v : V} (h : RepO K H o c ds v) : RepO K H' o c ds v := by
  obtain ⟨a, dx, vs, h1, h2, h3, h4, h5, h6⟩ := h
  exact ⟨a, dx, vs, h1, h2, h3, h4, e _ _ h5, h6.ext (Ext.of e)⟩
/-- the list frozen -/
def frzD : D → D
  | .opn ds => .lst ds
  | d => d
theorem RepW.of {K : PySem.W.Frag} {H : Hp} {d : D} {v : V} (h : RepF K H d v) : RepW K H d v := by
  cases d with
  | lst ds =>
    simp only [RepF] at h
    obtain ⟨a, vs, o, h1, h2, h3⟩ := h
    exact ⟨a, vs, h1, .inr ⟨o, h2⟩, h3⟩
  | obj o c ds => simp only [RepF] at h
  | _ => exact h
theorem RepM.of {K : PySem.W.Frag} {H0 H : Hp} {d : D} {v : V} (h : RepF K H d v) : RepM K H0 H d v := by
  cases d with
  | opn ds => simp only [RepF] at h
  | _ => exact h
theorem RepS.of {K : PySem.W.Frag} {H : Hp} {d : D} {v : V} (h : RepF K H d v) : RepS K H d v := by
  cases d with
  | obj o c ds => simp only [RepF] at h
  | opn ds => simp only [RepF] at h
  | _ => exact h
theorem RepM.s {K : PySem.W.Frag} {H0 H : Hp} {d : D} {v : V} (h : RepM K H0 H d v) : RepS K H d v := by
  cases d with
  | opn ds =>
    obtain ⟨a, vs, h1, _, h2, h3⟩ := h
    exact ⟨a, vs, h1, h2, h3⟩
  | obj o c ds =>
    have h : RepF K H (.obj o c ds) v := h
    simp only [RepF] at h
  | _ => exact h
theorem RepS.w {K : PySem.W.Frag} {H : Hp} {d : D} {v : V} (h : RepS K H d v) : RepW K H (frzD d) v := by
  cases d with
  | opn ds =>
    obtain ⟨a, vs, h1, h2, h3⟩ := h
    exact ⟨a, vs, h1, .inl h2, h3⟩
  | lst ds => exact RepW.of h
  | obj o c ds => exact h
  | _ => exact h
theorem RepW.same {K : PySem.W.Frag} {H H' : Hp} (e : Same H H') {d : D} {v : V} (h : RepW K H d v) : RepW K H' d v := by
  cases d with
  | lst ds =>
    obtain ⟨a, vs, h1, h2, h3⟩ := h
    refine ⟨a, vs, h1, ?_, h3.ext (Ext.of e)⟩
    rcases h2 with h2 | ⟨o, h2⟩
    · exact .inl (e _ _ h2)
    · exact .inr ⟨o, e _ _ h2⟩
  | obj o c ds => exact RepO.same e h
  | _ => exact RepF.ext (Ext.of e) _ _ h
theorem RepS.same {K : PySem.W.Frag} {H H' : Hp} (e : Same H H') {d : D} {v : V} (h : RepS K H d v) : RepS K H' d v := by
  cases d with
  | opn ds =>
    obtain ⟨a, vs, h1, h2, h3⟩ := h
    exact ⟨a, vs, h1, e _ _ h2, h3.ext (Ext.of e)⟩
  | obj o c ds => exact RepO.same e h
  | _ => exact RepF.ext (Ext.of e) _ _ h
theorem RepM.same {K : PySem.W.Frag} {H0 H H' : Hp} (e : Same H H') {d : D} {v : V} (h : RepM K H0 H d v) : RepM K H0 H' d v := by
  cases d with
  | opn ds =>
    obtain ⟨a, vs, h1, h0, h2, h3⟩ := h
    exact ⟨a, vs, h1, h0, e _ _ h2, h3.ext (Ext.of e)⟩
  | _ => exact RepF.ext (Ext.of e) _ _ h
theorem RepM.back {K : PySem.W.Frag} {H0 H1 H : Hp} (e : Same H0 H1) {d : D} {v : V} (h : RepM K H1 H d v) : RepM K H0 H d v := by
  cases d with
  | opn ds =>
    obtain ⟨a, vs, h1, h0, h2, h3⟩ := h
    exact ⟨a, vs, h1, e.free h0, h2, h3⟩
  | _ => exact h

/-! ### slots -/
abbrev Rho := List (Option D)
structure ER (K : PySem.W.Frag) (H : Hp) (σ : L2.St) (ρ : Rho) : Prop where
  len : ρ.length = σ.length
  slot : ∀ (i : Nat) (d : D), ρ[i]? = some (some d) → ∃ v, σ[i]? = some (some v) ∧ RepS K H d v
theorem ER.same {K : PySem.W.Frag} {H H' : Hp} {σ : L2.St} {ρ : Rho} (h : ER K H σ ρ) (e : Same H H') : ER K H' σ ρ :=
  ⟨h.len, fun i d q => let ⟨v, a, b⟩ := h.slot i d q; ⟨v, a, b.same e⟩⟩
/-- the slots of a def's body, H0 its entry's heap -/
structure ERS (K : PySem.W.Frag) (H0 H : Hp) (σ : L2.St) (ρ : Rho) : Prop extends ER K H σ ρ where
  sm : Same H0 H
  fresh : ∀ (i : Nat) (ds : List D) (a : Addr), ρ[i]? = some (some (.opn ds)) → σ[i]? = some (some (.ref a)) → H0 a = none
  apart : ∀ (i j : Nat) (ds es : List D) (a : Addr), ρ[i]? = some (some (.opn ds)) → ρ[j]? = some (some (.opn es)) → σ[i]? = some (some (.ref a)) → σ[j]? = some (some (.ref a)) → i = j
  ofresh : ∀ (i : Nat) (o : Option Addr) (c : Addr) (ds : List D) (a : Addr), ρ[i]? = some (some (.obj o c ds)) → σ[i]? = some (some (.ref a)) → H0 a = none
  oapart : ∀ (i j : Nat) (o o' : Option Addr) (c c' : Addr) (ds es : List D) (a : Addr), ρ[i]? = some (some (.obj o c ds)) → ρ[j]? = some (some (.obj o' c' es)) → σ[i]? = some (some (.ref a)) → σ[j]? = some (some (.ref a)) → i = j
theorem ERS.same {K : PySem.W.Frag} {H0 H H' : Hp} {σ : L2.St} {ρ : Rho} (h : ERS K H0 H σ ρ) (e : Same H H') : ERS K H0 H' σ ρ :=
  ⟨h.toER.same e, h.sm.trans e, h.fresh, h.apart, h.ofresh, h.oapart⟩

theorem ER.set {K : PySem.W.Frag} {H : Hp} {σ : L2.St} {ρ : Rho} (h : ER K H σ ρ) {i : Nat} {d : D} {v : V} (r : RepS K H d v) : ER K H (σ.set i (some v)) (ρ.set i (some d)) := by
  refine ⟨by simp [h.len], fun j e q => ?_⟩
  by_cases hj : i = j
  · subst hj
    have hi : i < ρ.length := by
      have := (List.getElem?_eq_some_iff.mp q).1
      simpa using this
    rw [List.getElem?_set_self hi] at q
    cases q
    exact ⟨v, List.getElem?_set_self (by rw [← h.len]; exact hi), r⟩
  · rw [List.getElem?_set_ne hj] at q ⊢
    exact h.slot j e q
/-- a slot takes a value that was made in this body -/
theorem ERS.set {K : PySem.W.Frag} {H0 H1 H : Hp} {σ : L2.St} {ρ : Rho} (h : ERS K H0 H1 σ ρ) (e : Same H1 H) {i : Nat} {d : D} {v : V} (r : RepM K H1 H d v) : ERS K H0 H (σ.set i (some v)) (ρ.set i (some d)) := by
  have h' := h.same e
  have nob : ∀ {j : Nat} {o : Option Addr} {c : Addr} {ds : List D}, (ρ.set i (some d))[j]? = some (some (D.obj o c ds)) → i ≠ j ∧ ρ[j]? = some (some (D.obj o c ds)) := by
    intro j o c ds q
    by_cases hj : i = j
    · subst hj
      have hi : i < ρ.length := by simpa using (List.getElem?_eq_some_iff.mp q).1
      rw [List.getElem?_set_self hi] at q
      cases q
      have r : RepF K H (.obj o c ds) v := r
      simp only [RepF] at r
    · rw [List.getElem?_set_ne hj] at q; exact ⟨hj, q⟩
  refine ⟨h'.toER.set r.s, h'.sm, fun j ds a q1 q2 => ?_, fun j k ds es a q1 q2 q3 q4 => ?_, fun j o c ds a q1 q2 => ?_, fun j k o o' c c' ds es a q1 q2 q3 q4 => ?_⟩
  · by_cases hj : i = j
    · subst hj
      have hi : i < ρ.length := by simpa using (List.getElem?_eq_some_iff.mp q1).1
      rw [List.getElem?_set_self hi] at q1
      rw [List.getElem?_set_self (by rw [← h.len]; exact hi)] at q2
      cases q1
      cases q2
      obtain ⟨b, vs, e1, h0, _⟩ := r
      cases e1
      exact h.sm.free h0
    · rw [List.getElem?_set_ne hj] at q1 q2
      exact h.fresh j ds a q1 q2
  · have old : ∀ {j k : Nat} {ds es : List D} {a : Addr}, i = j → i ≠ k → (ρ.set i (some d))[j]? = some (some (D.opn ds)) → (ρ.set i (some d))[k]? = some (some (D.opn es)) → (σ.set i (some v))[j]? = some (some (V.ref a)) → (σ.set i (some v))[k]? = some (some (V.ref a)) → False := by
      intro j k ds es a hj hk q1 q2 q3 q4
      subst hj
      have hi : i < ρ.length := by simpa using (List.getElem?_eq_some_iff.mp q1).1
      rw [List.getElem?_set_self hi] at q1
      rw [List.getElem?_set_self (by rw [← h.len]; exact hi)] at q3
      cases q1
      cases q3
      rw [List.getElem?_set_ne hk] at q2 q4
      obtain ⟨b, vs, e1, h0, _⟩ := r
      cases e1
      obtain ⟨u, hu, b, us, e2, hb, _⟩ := h.slot k _ q2
      rw [q4] at hu; cases hu; cases e2
      rw [h0] at hb; cases hb
    by_cases hj : i = j
    · by_cases hk : i = k
      · rw [← hj, ← hk]
      · exact (old hj hk q1 q2 q3 q4).elim
    · by_cases hk : i = k
      · exact (old hk hj q2 q1 q4 q3).elim
      · rw [List.getElem?_set_ne hj] at q1 q3
        rw [List.getElem?_set_ne hk] at q2 q4
        exact h.apart j k ds es a q1 q2 q3 q4
  · obtain ⟨n, q1⟩ := nob q1
    rw [List.getElem?_set_ne n] at q2
    exact h.ofresh j o c ds a q1 q2
  · obtain ⟨n1, q1⟩ := nob q1
    obtain ⟨n2, q2⟩ := nob q2
    rw [List.getElem?_set_ne n1] at q3
    rw [List.getElem?_set_ne n2] at q4
    exact h.oapart j k o o' c c' ds es a q1 q2 q3 q4
/-- the list in slot i is changed in place -/
theorem ERS.put {K : PySem.W.Frag} {H0 H : Hp} {σ : L2.St} {ρ : Rho} (h : ERS K H0 H σ ρ) {i : Nat} {ds es : List D} {a : Addr} {us : List V} (hi : ρ[i]? = some (some (.opn ds))) (ha : σ[i]? = some (some (.ref a))) (r : RepL K H es us) :
    ERS K H0 (upd H a (.lst us)) σ (ρ.set i (some (.opn es))) ∧ Ext H (upd H a (.lst us)) := by
  obtain ⟨v, hv, b, vs, e1, hb, hr⟩ := h.slot i _ hi
  rw [ha] at hv; cases hv; cases e1
  have ext : Ext H (upd H a (.lst us)) := Ext.updO (.inl (by rw [hb]; trivial))
  have hil : i < ρ.length := (List.getElem?_eq_some_iff.mp hi).1
  have nob : ∀ {j : Nat} {o : Option Addr} {c : Addr} {xs : List D}, (ρ.set i (some (.opn es)))[j]? = some (some (D.obj o c xs)) → ρ[j]? = some (some (D.obj o c xs)) := by
    intro j o c xs q
    by_cases hj : i = j
    · subst hj; rw [List.getElem?_set_self hil] at q; cases q
    · rw [List.getElem?_set_ne hj] at q; exact q
  refine ⟨⟨⟨by simp [h.len], fun j d q => ?_⟩, fun b o e => ?_, fun j xs b q1 q2 => ?_, fun j k xs ys b q1 q2 q3 q4 => ?_, fun j o c xs b q1 q2 => h.ofresh j o c xs b (nob q1) q2, fun j k o o' c c' xs ys b q1 q2 q3 q4 => h.oapart j k o o' c c' xs ys b (nob q1) (nob q2) q3 q4⟩, ext⟩
  · by_cases hj : i = j
    · subst hj
      rw [List.getElem?_set_self hil] at q
      cases q
      exact ⟨.ref a, ha, a, us, rfl, upd_same, r.ext ext⟩
    · rw [List.getElem?_set_ne hj] at q
      obtain ⟨v, h1, h2⟩ := h.slot j d q
      refine ⟨v, h1, ?_⟩
      cases d with
      | opn zs =>
        obtain ⟨b, ws, e1, h3, h4⟩ := h2
        refine ⟨b, ws, e1, ?_, h4.ext ext⟩
        rw [upd_ne]; exact h3
        rintro rfl
        subst e1
        exact hj (h.apart i j _ _ b hi q ha h1)
      | obj o c zs =>
        obtain ⟨b, dx, ws, e1, h3, h4, h5, h6, h7⟩ := h2
        refine ⟨b, dx, ws, e1, h3, h4, h5, ?_, h7.ext ext⟩
        rw [upd_ne]; exact h6
        rintro rfl
        rw [hb] at h6; cases h6
      | _ => exact RepF.ext ext _ _ h2
  · have n := h.fresh i ds a hi ha
    have : b ≠ a := fun z => by rw [z, n] at e; cases e
    rw [upd_ne this]; exact h.sm b o e
  · by_cases hj : i = j
    · subst hj
      rw [ha] at q2; cases q2
      exact h.fresh i ds a hi ha
    · rw [List.getElem?_set_ne hj] at q1
      exact h.fresh j xs b q1 q2
  · have back : ∀ {j : Nat} {xs : List D}, (ρ.set i (some (D.opn es)))[j]? = some (some (D.opn xs)) → ∃ zs, ρ[j]? = some (some (D.opn zs)) := by
      intro j xs q
      by_cases hj : i = j
      · subst hj; exact ⟨ds, hi⟩
      · rw [List.getElem?_set_ne hj] at q; exact ⟨xs, q⟩
    obtain ⟨_, z1⟩ := back q1
    obtain ⟨_, z2⟩ := back q2
    exact h.apart j k _ _ b z1 z2 q3 q4
/-- the list in slot i is frozen -/
theorem ERS.ice {K : PySem.W.Frag} {H0 H : Hp} {σ : L2.St} {ρ : Rho} (h : ERS K H0 H σ ρ) {i : Nat} {ds : List D} {a : Addr} {us : List V} {o : Obj} (hi : ρ[i]? = some (some (.opn ds))) (ha : σ[i]? = some (some (.ref a))) (hH : H a = some (.lst us)) :
    ERS K H0 (upd H a (.frz o (.lst us))) σ (ρ.set i (some (.lst ds))) := by
  obtain ⟨v, hv, b, vs, e1, hb, hr⟩ := h.slot i _ hi
  rw [ha] at hv; cases hv; cases e1
  rw [hH] at hb; cases hb
  have ext : Ext H (upd H a (.frz o (.lst us))) := Ext.updO (.inl (by rw [hH]; trivial))
  have hil : i < ρ.length := (List.getElem?_eq_some_iff.mp hi).1
  have back : ∀ {j : Nat} {xs : List D}, (ρ.set i (some (D.lst ds)))[j]? = some (some (D.opn xs)) → i ≠ j ∧ ρ[j]? = some (some (D.opn xs)) := by
    intro j xs q
    by_cases hj : i = j
    · subst hj; rw [List.getElem?_set_self hil] at q; cases q
    · rw [List.getElem?_set_ne hj] at q; exact ⟨hj, q⟩
  have nob : ∀ {j : Nat} {o : Option Addr} {c : Addr} {xs : List D}, (ρ.set i (some (.lst ds)))[j]? = some (some (D.obj o c xs)) → ρ[j]? = some (some (D.obj o c xs)) := by
    intro j o c xs q
    by_cases hj : i = j
    · subst hj; rw [List.getElem?_set_self hil] at q; cases q
    · rw [List.getElem?_set_ne hj] at q; exact q
  refine ⟨⟨by simp [h.len], fun j d q => ?_⟩, fun b o e => ?_, fun j xs b q1 q2 => ?_, fun j k xs ys b q1 q2 q3 q4 => ?_, fun j o c xs b q1 q2 => h.ofresh j o c xs b (nob q1) q2, fun j k o o' c c' xs ys b q1 q2 q3 q4 => h.oapart j k o o' c c' xs ys b (nob q1) (nob q2) q3 q4⟩
  · by_cases hj : i = j
    · subst hj
      rw [List.getElem?_set_self hil] at q
      cases q
      refine ⟨.ref a, ha, ?_⟩
      show RepF _ _ (.lst ds) _
      simp only [RepF]
      exact ⟨a, us, o, rfl, upd_same, hr.ext ext⟩
    · rw [List.getElem?_set_ne hj] at q
      obtain ⟨v, h1, h2⟩ := h.slot j d q
      refine ⟨v, h1, ?_⟩
      cases d with
      | opn zs =>
        obtain ⟨b, ws, e1, h3, h4⟩ := h2
        refine ⟨b, ws, e1, ?_, h4.ext ext⟩
        rw [upd_ne]; exact h3
        rintro rfl
        subst e1
        exact hj (h.apart i j _ _ b hi q ha h1)
      | obj o c zs =>
        obtain ⟨b, dx, ws, e1, h3, h4, h5, h6, h7⟩ := h2
        refine ⟨b, dx, ws, e1, h3, h4, h5, ?_, h7.ext ext⟩
        rw [upd_ne]; exact h6
        rintro rfl
        rw [hH] at h6; cases h6
      | _ => exact RepF.ext ext _ _ h2
  · have n := h.fresh i ds a hi ha
    have : b ≠ a := fun z => by rw [z, n] at e; cases e
    rw [upd_ne this]; exact h.sm b _ e
  · exact h.fresh j xs b (back q1).2 q2
  · exact h.apart j k _ _ b (back q1).2 (back q2).2 q3 q4

theorem same_new {H : Hp} {a : Addr} {o : HO} (h : H a = none) : Same H (upd H a o) := fun b x e => by
  rw [upd_ne (ne_of_none e h)]; exact e
theorem same_new2 {H0 H : Hp} {a : Addr} {o : HO} (e : Same H0 H) (h : H0 a = none) : Same H0 (upd H a o) := fun b x q => by
  rw [upd_ne (ne_of_none q h)]; exact e b x q
end PL
/-! ### part PL2 -/
namespace PL
open PySem PySem.Spec PyProof.Rows L2

/-! ### canonical readings -/
def tF (K : PySem.W.Frag) (f : Rho → Option D) : TE := fun σ H Q => ∃ ρ d, ER K H σ ρ ∧ f ρ = some d ∧ ∀ v H', Same H H' → RepF K H' d v → Q v H'
def tM (K : PySem.W.Frag) (f : Rho → Option D) : TE := fun σ H Q => ∃ ρ d, ER K H σ ρ ∧ f ρ = some d ∧ ∀ v H', Same H H' → RepM K H H' d v → Q v H'
def tW (K : PySem.W.Frag) (f : Rho → Option D) : TE := fun σ H Q => ∃ ρ d, ER K H σ ρ ∧ f ρ = some d ∧ ∀ v H', Same H H' → RepW K H' d v → Q v H'
def tA (K : PySem.W.Frag) (f : Rho → Option (List D)) : TA := fun σ H Q => ∃ ρ ds, ER K H σ ρ ∧ f ρ = some ds ∧ ∀ vs H', Same H H' → RepL K H' ds vs → Q vs H'
def tB (K : PySem.W.Frag) (f : Rho → Option Bool) : TT := fun σ H Q => ∃ ρ b, ER K H σ ρ ∧ f ρ = some b ∧ ∀ H', Same H H' → Q b H'
/-- an expression's value is frozen; frozen or a new list; to be read at once -/
def FE (X : Cx) (e : Expr) (f : Rho → Option D) : Prop := PE X e (tF X.K f)
def ME (X : Cx) (e : Expr) (f : Rho → Option D) : Prop := PE X e (tM X.K f)
def WE (X : Cx) (e : Expr) (f : Rho → Option D) : Prop := PE X e (tW X.K f)
def AE (X : Cx) (es : List Expr) (f : Rho → Option (List D)) : Prop := PA X es (tA X.K f)
def BE (X : Cx) (e : Expr) (f : Rho → Option Bool) : Prop := PT X e (tB X.K f)

theorem PE.weak {X : Cx} {e : Expr} {t t' : TE} (h : PE X e t) (k : ∀ σ H Q, t' σ H Q → t σ H Q) : PE X e t' := ⟨fun pins s σ H Q I q => h.run pins s σ H Q I (k σ H Q q)⟩
theorem PT.weak {X : Cx} {e : Expr} {t t' : TT} (h : PT X e t) (k : ∀ σ H Q, t' σ H Q → t σ H Q) : PT X e t' := ⟨fun pins s σ H Q I q => h.run pins s σ H Q I (k σ H Q q)⟩
theorem PA.weak {X : Cx} {es : List Expr} {t t' : TA} (h : PA X es t) (k : ∀ σ H Q, t' σ H Q → t σ H Q) : PA X es t' := ⟨fun pos pins s σ H Q I q => h.run pos pins s σ H Q I (k σ H Q q)⟩
theorem PS.weak {X : Cx} {st : Stmt} {t t' : TS} (h : PS X st t) (k : ∀ D σ H, t' D σ H → t D σ H) : PS X st t' := ⟨fun pins s σ H D I q => h.run pins s σ H D I (k D σ H q)⟩

def fz (f : Rho → Option D) : Rho → Option D := fun ρ => (f ρ).map frzD
section
variable {X : Cx} {e a b : Expr} {es : List Expr} {f fa fb : Rho → Option D} {pos : Pos}
theorem me_of_fe (h : FE X e f) : ME X e f := PE.weak h fun σ H Q ⟨ρ, d, er, hf, q⟩ => ⟨ρ, d, er, hf, fun v H' s r => q v H' s (.of r)⟩
theorem we_of_fe (h : FE X e f) : WE X e f := PE.weak h fun σ H Q ⟨ρ, d, er, hf, q⟩ => ⟨ρ, d, er, hf, fun v H' s r => q v H' s (.of r)⟩
theorem we_of_me (h : ME X e f) : WE X e (fz f) := PE.weak h fun σ H Q ⟨ρ, d, er, hf, q⟩ => by
  obtain ⟨d0, h0, rfl⟩ := Option.map_eq_some_iff.mp hf
  exact ⟨ρ, d0, er, h0, fun v H' s r => q v H' s r.s.w⟩
theorem fe_of_me (h : ME X e f) : FE X e (fz f) := by
  refine ⟨fun pins s σ H Q I ⟨ρ, d', er, hf, q⟩ => ?_⟩
  obtain ⟨d, h0, rfl⟩ := Option.map_eq_some_iff.mp hf
  refine thn (h.run pins s σ H (fun v H1 => Same H H1 ∧ RepM X.K H H1 d v) I ⟨ρ, d, er, h0, fun v H' s r => ⟨s, r⟩⟩) fun u s1 ⟨v, H1, I1, rv, sm, r⟩ => ?_
  cases d with
  | opn ds =>
    obtain ⟨a, vs, rfl, n0, h1, h2⟩ := r
    obtain ⟨od, I2⟩ := I1.lock h1 trivial
    have ext : Ext H1 (upd H1 a (.frz od (.lst vs))) := Ext.updO (.inl (by rw [h1]; trivial))
    refine ⟨.ref a, _, I2, rv, q _ _ (same_new2 sm n0) ?_⟩
    show RepF _ _ (.lst ds) _
    simp only [RepF]
    exact ⟨a, vs, od, rfl, upd_same, h2.ext ext⟩
  | _ => exact ⟨v, H1, I1, rv, q v H1 sm r⟩
/-- an equal mirror -/
theorem FE.eq {g : Rho → Option D} (h : FE X e f) (k : g = f) : FE X e g := k ▸ h

/-! ### names, constants -/
def noOpn : D → Option D
  | .opn _ => none
  | .obj _ _ _ => none
  | d => some d
def fVar (i : Nat) : Rho → Option D := fun ρ => (ρ[i]?.join).bind noOpn
def fVarW (i : Nat) : Rho → Option D := fun ρ => (ρ[i]?.join).map frzD
def fC (d : D) : Rho → Option D := fun _ => some d
theorem noOpn_some {d d' : D} (h : noOpn d = some d') : d = d' ∧ ∀ ds, d ≠ .opn ds ∧ ∀ o c, d ≠ .obj o c ds := by
  cases d <;> simp [noOpn] at h <;> first | exact ⟨h, fun _ => ⟨fun z => nomatch z, fun _ _ z => nomatch z⟩⟩ | (subst h; exact ⟨rfl, fun _ => ⟨fun z => nomatch z, fun _ _ z => nomatch z⟩⟩) | (refine ⟨h, fun _ => ⟨?_, ?_⟩⟩ <;> intros <;> simp)
theorem repF_of_s {K : PySem.W.Frag} {H : Hp} {d : D} {v : V} (h : RepS K H d v) (n : ∀ ds, d ≠ .opn ds ∧ ∀ o c, d ≠ .obj o c ds) : RepF K H d v := by
  cases d with
  | opn ds => exact absurd rfl (n ds).1
  | obj o c ds => exact absurd rfl ((n ds).2 o c)
  | _ => exact h
theorem fe_var {x : Str} (i : Nat) (hN : X.N[i]? = some x) (hv : Vis X.env.scope x) (hd : (x == ("__debug__" : Str)) = false := by decide) (hcd : (x == ("__classdict__" : Str)) = false := by decide) : FE X (.Name x pos) (fVar i) :=
  PE.weak (pe_var hN hv hd hcd) fun σ H Q ⟨ρ, d, er, hf, q⟩ => by
    unfold fVar at hf
    obtain ⟨d0, h0, h1⟩ := Option.bind_eq_some_iff.mp hf
    obtain ⟨rfl, n⟩ := noOpn_some h1
    obtain ⟨v, hv, r⟩ := er.slot i d0 (Option.join_eq_some_iff.mp h0)
    exact ⟨v, hv, q v H (Same.refl H) (repF_of_s r n)⟩
theorem we_var {x : Str} (i : Nat) (hN : X.N[i]? = some x) (hv : Vis X.env.scope x) (hd : (x == ("__debug__" : Str)) = false := by decide) (hcd : (x == ("__classdict__" : Str)) = false := by decide) : WE X (.Name x pos) (fVarW i) :=
  PE.weak (pe_var hN hv hd hcd) fun σ H Q ⟨ρ, d, er, hf, q⟩ => by
    unfold fVarW at hf
    obtain ⟨d0, h0, rfl⟩ := Option.map_eq_some_iff.mp hf
    obtain ⟨v, hv, r⟩ := er.slot i d0 (Option.join_eq_some_iff.mp h0)
    exact ⟨v, hv, q v H (Same.refl H) r.w⟩
theorem fe_int {i : Int} {j} : FE X (.Constant (.int i) j pos) (fC (.int i)) := PE.weak pe_int fun σ H Q ⟨ρ, d, er, hf, q⟩ => by cases hf; exact q _ H (Same.refl H) (by simp only [RepF])
theorem fe_bl {i : Bool} {j} : FE X (.Constant (.bool i) j pos) (fC (.bl i)) := PE.weak pe_bl fun σ H Q ⟨ρ, d, er, hf, q⟩ => by cases hf; exact q _ H (Same.refl H) (by simp only [RepF])
theorem fe_non {j} : FE X (.Constant .none j pos) (fC .non) := PE.weak pe_non fun σ H Q ⟨ρ, d, er, hf, q⟩ => by cases hf; exact q _ H (Same.refl H) (by simp only [RepF])
theorem fe_str {x : Str} {j} : FE X (.Constant (.str x) j pos) (fC (.str x)) := PE.weak pe_str fun σ H Q ⟨ρ, d, er, hf, q⟩ => by cases hf; exact q _ H (Same.refl H) (by simp only [RepF])
theorem fe_globS {x : Str} {z : Str} {t : Tok} (hg : Gl X x) (hm : X.mg x = some (.str z t)) (hd : (x == ("__debug__" : Str)) = false := by decide) : FE X (.Name x pos) (fC (.str z)) :=
  PE.weak (pe_glob (v := .str z) hg hm ⟨t, rfl⟩ hd) fun σ H Q ⟨ρ, d, er, hf, q⟩ => by cases hf; exact q _ H (Same.refl H) (by simp only [RepF])

/-! ### argument lists, displays -/
def fsNil : Rho → Option (List D) := fun _ => some []
def fsCons (f : Rho → Option D) (g : Rho → Option (List D)) : Rho → Option (List D) := fun ρ => (f ρ).bind fun d => (g ρ).map (d :: ·)
theorem ae_nil : AE X [] fsNil := PA.weak pa_nil fun σ H Q ⟨ρ, ds, er, hf, q⟩ => by cases hf; exact q _ H (Same.refl H) (by simp only [RepL])
theorem ae_cons {g : Rho → Option (List D)} (ha : FE X e f) (hr : AE X es g) (hs : starEach (e :: es) X.env = (false, eval e X.env) :: starEach es X.env := by rfl) : AE X (e :: es) (fsCons f g) :=
  PA.weak (pa_cons ha hr hs) fun σ H Q ⟨ρ, ds, er, hf, q⟩ => by
    obtain ⟨d, h1, h2⟩ := Option.bind_eq_some_iff.mp hf
    obtain ⟨r, h3, rfl⟩ := Option.map_eq_some_iff.mp h2
    refine ⟨ρ, d, er, h1, fun v H1 s1 r1 => ⟨ρ, r, er.same s1, h3, fun vs H2 s2 r2 => q _ H2 (s1.trans s2) (RepL.cons (r1.ext (Ext.of s2)) r2)⟩⟩
def fTup (g : Rho → Option (List D)) : Rho → Option D := fun ρ => (g ρ).bind fun ds => if ds.length ≤ 1000 then some (.tup ds) else none
def fLst (g : Rho → Option (List D)) : Rho → Option D := fun ρ => (g ρ).bind fun ds => if ds.length ≤ 1000 then some (.opn ds) else none
theorem le_line {n : Nat} (h : n ≤ 1000) : n ≤ sizeLine := by rw [sizeLine_eq]; omega
theorem fe_tup {g : Rho → Option (List D)} {x1} (h : AE X es g) : FE X (.Tuple es x1 pos) (fTup g) :=
  PE.weak (pe_tup h) fun σ H Q ⟨ρ, d, er, hf, q⟩ => by
    obtain ⟨ds, h1, h2⟩ := Option.bind_eq_some_iff.mp hf
    split at h2
    · rename_i hl
      cases h2
      refine ⟨ρ, ds, er, h1, fun vs H1 s1 r1 => ⟨le_line (by rw [r1.length]; exact hl), fun p hp => q _ _ (s1.trans (same_new hp)) ?_⟩⟩
      simp only [RepF]
      exact ⟨p, vs, rfl, .of upd_same, r1.ext (Ext.of (same_new hp))⟩
    · cases h2
theorem me_lst {g : Rho → Option (List D)} (h : AE X es g) : ME X (.List es pos) (fLst g) :=
  PE.weak (pe_lst h) fun σ H Q ⟨ρ, d, er, hf, q⟩ => by
    obtain ⟨ds, h1, h2⟩ := Option.bind_eq_some_iff.mp hf
    split at h2
    · rename_i hl
      cases h2
      refine ⟨ρ, ds, er, h1, fun vs H1 s1 r1 => ⟨le_line (by rw [r1.length]; exact hl), fun p hp => q _ _ (s1.trans (same_new hp)) ?_⟩⟩
      exact ⟨p, vs, rfl, s1.free hp, upd_same, r1.ext (Ext.of (same_new hp))⟩
    · cases h2

/-! ### two operands -/
def b2 (g : D → D → Option D) (fa fb : Rho → Option D) : Rho → Option D := fun ρ => (fa ρ).bind fun x => (fb ρ).bind fun y => g x y
theorem b2_some {g : D → D → Option D} {fa fb : Rho → Option D} {ρ : Rho} {d : D} (h : b2 g fa fb ρ = some d) : ∃ x y, fa ρ = some x ∧ fb ρ = some y ∧ g x y = some d := by
  obtain ⟨x, h1, h2⟩ := Option.bind_eq_some_iff.mp h
  obtain ⟨y, h3, h4⟩ := Option.bind_eq_some_iff.mp h2
  exact ⟨x, y, h1, h3, h4⟩
/-- a rule by values answers g -/
def RulF (K : PySem.W.Frag) (g : D → D → Option D) (r : R2) : Prop := ∀ (dx dy d : D) (x y : V) (H : Hp) (Q : VK), RepW K H dx x → RepW K H dy y → g dx dy = some d → (∀ v H', Same H H' → RepF K H' d v → Q v H') → r x y H Q
def RulM (K : PySem.W.Frag) (g : D → D → Option D) (r : R2) : Prop := ∀ (dx dy d : D) (x y : V) (H : Hp) (Q : VK), RepW K H dx x → RepW K H dy y → g dx dy = some d → (∀ v H', Same H H' → RepM K H H' d v → Q v H') → r x y H Q
theorem top_f {g : D → D → Option D} {r : R2} (hr : RulF X.K g r) {σ : L2.St} {H : Hp} {Q : VK} (h : tF X.K (b2 g fa fb) σ H Q) : tOp r (tW X.K fa) (tW X.K fb) σ H Q := by
  obtain ⟨ρ, d, er, hf, q⟩ := h
  obtain ⟨x, y, h1, h2, h3⟩ := b2_some hf
  exact ⟨ρ, x, er, h1, fun v H1 s1 r1 => ⟨ρ, y, er.same s1, h2, fun u H2 s2 r2 => hr x y d v u H2 Q (r1.same s2) r2 h3 fun v' H' s' r' => q v' H' ((s1.trans s2).trans s') r'⟩⟩
theorem top_m {g : D → D → Option D} {r : R2} (hr : RulM X.K g r) {σ : L2.St} {H : Hp} {Q : VK} (h : tM X.K (b2 g fa fb) σ H Q) : tOp r (tW X.K fa) (tW X.K fb) σ H Q := by
  obtain ⟨ρ, d, er, hf, q⟩ := h
  obtain ⟨x, y, h1, h2, h3⟩ := b2_some hf
  exact ⟨ρ, x, er, h1, fun v H1 s1 r1 => ⟨ρ, y, er.same s1, h2, fun u H2 s2 r2 => hr x y d v u H2 Q (r1.same s2) r2 h3 fun v' H' s' r' => q v' H' ((s1.trans s2).trans s') (r'.back (s1.trans s2))⟩⟩
theorem fe_op {op : Operator} {g : D → D → Option D} {r : R2} (ho : OpR X (binaryOp op) r) (hr : RulF X.K g r) (ha : WE X a fa) (hb : WE X b fb) : FE X (.BinOp a op b pos) (b2 g fa fb) :=
  PE.weak (pe_op ho ha hb) fun σ H Q h => top_f hr h
theorem me_op {op : Operator} {g : D → D → Option D} {r : R2} (ho : OpR X (binaryOp op) r) (hr : RulM X.K g r) (ha : WE X a fa) (hb : WE X b fb) : ME X (.BinOp a op b pos) (b2 g fa fb) :=
  PE.weak (pe_op ho ha hb) fun σ H Q h => top_m hr h

/-! ### numbers -/
theorem repW_int {K : PySem.W.Frag} {H : Hp} {i : Int} {v : V} (h : RepW K H (.int i) v) : v = .int i := by
  have h : RepF K H (.int i) v := h
  simpa only [RepF] using h
theorem repW_str {K : PySem.W.Frag} {H : Hp} {i : Str} {v : V} (h : RepW K H (.str i) v) : v = .str i := by
  have h : RepF K H (.str i) v := h
  simpa only [RepF] using h
theorem repW_bl {K : PySem.W.Frag} {H : Hp} {i : Bool} {v : V} (h : RepW K H (.bl i) v) : v = .bl i := by
  have h : RepF K H (.bl i) v := h
  simpa only [RepF] using h
theorem repW_non {K : PySem.W.Frag} {H : Hp} {v : V} (h : RepW K H .non v) : v = .non := by
  have h : RepF K H .non v := h
  simpa only [RepF] using h
theorem repW_tup {K : PySem.W.Frag} {H : Hp} {ds : List D} {v : V} (h : RepW K H (.tup ds) v) : ∃ a vs, v = .ref a ∧ SqT K H a vs ∧ RepL K H ds vs := by
  have h : RepF K H (.tup ds) v := h
  simpa only [RepF] using h
theorem repF_int {K : PySem.W.Frag} {H : Hp} {i : Int} : RepF K H (.int i) (.int i) := by simp only [RepF]
theorem repF_bl {K : PySem.W.Frag} {H : Hp} {i : Bool} : RepF K H (.bl i) (.bl i) := by simp only [RepF]
theorem repF_str {K : PySem.W.Frag} {H : Hp} {i : Str} : RepF K H (.str i) (.str i) := by simp only [RepF]
theorem repF_non {K : PySem.W.Frag} {H : Hp} : RepF K H .non .non := by simp only [RepF]
theorem repF_tup {K : PySem.W.Frag} {H : Hp} {a : Addr} {ds : List D} {vs : List V} (h : SqT K H a vs) (r : RepL K H ds vs) : RepF K H (.tup ds) (.ref a) := by
  simp only [RepF]; exact ⟨a, vs, rfl, h, r⟩

def gSub : D → D → Option D
  | .int i, .int j => some (.int (i - j))
  | _, _ => none
theorem rul_sub {K : PySem.W.Frag} : RulF K gSub (rI0 fun i j => .int (i - j)) := fun dx dy d x y H Q r1 r2 h q => by
  cases dx <;> cases dy <;> simp only [gSub, reduceCtorEq] at h
  cases h
  exact ⟨_, _, repW_int r1, repW_int r2, q _ H (Same.refl H) repF_int⟩
theorem fe_sub (ha : WE X a fa) (hb : WE X b fb) : FE X (.BinOp a .Sub b pos) (b2 gSub fa fb) := fe_op op_sub rul_sub ha hb
/-- a test that nothing computes -/
noncomputable def cdec (p : Prop) : Bool := @decide p (Classical.propDecidable p)
theorem cdec_iff {p : Prop} : cdec p = true ↔ p := by unfold cdec; exact @decide_eq_true_iff p (Classical.propDecidable p)
noncomputable def gFdiv : D → D → Option D
  | .int i, .int j => if cdec (0 < j ∧ j < 1073741824) = true then some (.int (i / j)) else none
  | _, _ => none
theorem rul_fdiv {K : PySem.W.Frag} : RulF K gFdiv (rI CDiv fun i j => .int (i / j)) := fun dx dy d x y H Q r1 r2 h q => by
  cases dx <;> cases dy <;> simp only [gFdiv, reduceCtorEq] at h
  split at h
  · rename_i hc
    cases h
    exact ⟨_, _, repW_int r1, repW_int r2, cdec_iff.mp hc, q _ H (Same.refl H) repF_int⟩
  · cases h
theorem fe_fdiv (ha : WE X a fa) (hb : WE X b fb) : FE X (.BinOp a .FloorDiv b pos) (b2 gFdiv fa fb) := fe_op op_fdiv rul_fdiv ha hb
def gMod : D → D → Option D
  | .int i, .int j => if 0 < j then some (.int (i % j)) else none
  | _, _ => none
theorem rul_mod {K : PySem.W.Frag} : RulF K gMod (rI (fun _ j => 0 < j) fun i j => .int (i % j)) := fun dx dy d x y H Q r1 r2 h q => by
  cases dx <;> cases dy <;> simp only [gMod, reduceCtorEq] at h
  split at h
  · rename_i hc
    cases h
    exact ⟨_, _, repW_int r1, repW_int r2, hc, q _ H (Same.refl H) repF_int⟩
  · cases h
theorem fe_mod (ha : WE X a fa) (hb : WE X b fb) : FE X (.BinOp a .Mod b pos) (b2 gMod fa fb) := fe_op op_mod rul_mod ha hb
def gPow : D → D → Option D
  | .int i, .int j => if 0 ≤ j ∧ j ≤ 1000000 ∧ i.natAbs < 2 ^ 64 then some (.int (i ^ j.toNat)) else none
  | _, _ => none
theorem rul_pow {K : PySem.W.Frag} : RulF K gPow (rI CPow fun i j => .int (i ^ j.toNat)) := fun dx dy d x y H Q r1 r2 h q => by
  cases dx <;> cases dy <;> simp only [gPow, reduceCtorEq] at h
  split at h
  · rename_i hc
    cases h
    exact ⟨_, _, repW_int r1, repW_int r2, hc, q _ H (Same.refl H) repF_int⟩
  · cases h
theorem fe_pow (ha : WE X a fa) (hb : WE X b fb) : FE X (.BinOp a .Pow b pos) (b2 gPow fa fb) := fe_op op_pow rul_pow ha hb
def fNeg (fa : Rho → Option D) : Rho → Option D := fun ρ => (fa ρ).bind fun x => match x with
  | .int i => some (.int (-i))
  | _ => none
theorem fe_neg (ha : WE X a fa) : FE X (.UnaryOp .USub a pos) (fNeg fa) := PE.weak (pe_un un_neg ha) fun σ H Q ⟨ρ, d, er, hf, q⟩ => by
  obtain ⟨x, h1, h2⟩ := Option.bind_eq_some_iff.mp hf
  refine ⟨ρ, x, er, h1, fun v H1 s1 r1 => ?_⟩
  cases x <;> simp only [reduceCtorEq] at h2
  cases h2
  exact ⟨_, repW_int r1, q _ H1 s1 repF_int⟩
end
end PL
/-! ### part PL3 -/
namespace PL
open PySem PySem.Spec PyProof.Rows L2

theorem repW_lst {K : PySem.W.Frag} {H : Hp} {ds : List D} {v : V} (h : RepW K H (.lst ds) v) : ∃ a vs, v = .ref a ∧ Rd H a (.lst vs) ∧ RepL K H ds vs := h
theorem inv_rdL {X : Cx} {pins : List (Addr × Obj)} {σ : L2.St} {H : Hp} {s : Shared} {a : Addr} {xs : List V} (I : Inv X pins σ H s) (h : Rd H a (.lst xs)) :
    xs.length ≤ sizeLine ∧ ∃ (its : List Value) (n : Nat), Vals xs its ∧ xs.length = its.length ∧ s.heap.get? a = some { cls := .type "list", data := .seq its.toArray n } := by
  obtain ⟨z, its, n, r, e⟩ := h.ok I.hok
  exact ⟨z, its, n, r, r.length, e⟩

/-! ### + -/
def rCatL : R2 := fun x y H Q => ∃ l b xs zs, x = .ref l ∧ y = .ref b ∧ Rd H l (.lst xs) ∧ Rd H b (.lst zs) ∧ xs.length + zs.length ≤ sizeLine ∧ ∀ p, H p = none → Q (.ref p) (upd H p (.lst (xs ++ zs)))
section
variable {X : Cx}
theorem op_catL : OpR X (binaryOp .Add) rCatL := by
  intro pins s σ H x y v u Q I rx ry h
  obtain ⟨l, b, xs, zs, rfl, rfl, hH, hB, hz, q⟩ := h
  cases rx
  cases ry
  obtain ⟨z, its, n, r, hl, e⟩ := inv_rdL I hH
  obtain ⟨z2, its2, n2, r2, hl2, e2⟩ := inv_rdL I hB
  refine PySem.P.add_list e e2 ?_ (by rw [List.size_toArray, List.size_toArray]; omega)
  have ea : its.toArray ++ its2.toArray = (its ++ its2).toArray := by simp
  rw [ea]
  exact ⟨.ref _, _, I.lnew (t' := s.toks) (r.append r2) (by rw [List.length_append]; omega), rfl, q _ I.fresh⟩
/-- sizes that are always let in -/
def small (n : Nat) : Bool := decide (n ≤ 16777216)
theorem small_le {n : Nat} (h : small n = true) : n ≤ sizeLine := by rw [sizeLine_eq]; exact of_decide_eq_true h
def gAdd : D → D → Option D
  | .int i, .int j => some (.int (i + j))
  | .str x, .str y => if small (x.length + y.length) then some (.str (x ++ y)) else none
  | .tup xs, .tup ys => if small (xs.length + ys.length) then some (.tup (xs ++ ys)) else none
  | .lst xs, .lst ys => if small (xs.length + ys.length) then some (.opn (xs ++ ys)) else none
  | _, _ => none
def rAdd4 (K : PySem.W.Frag) : R2 := fun x y H Q => rI0 (fun i j => .int (i + j)) x y H Q ∨ (∃ i j, x = .str i ∧ y = .str j ∧ i.length + j.length ≤ sizeLine ∧ Q (.str (i ++ j)) H) ∨ rCatA K x y H Q ∨ rCatL x y H Q
theorem op_add4 : OpR X (binaryOp .Add) (rAdd4 X.K) := op_add.or (op_add_str.or (op_catA.or op_catL))
theorem rul_add {K : PySem.W.Frag} : RulM K gAdd (rAdd4 K) := fun dx dy d x y H Q r1 r2 h q => by
  cases dx <;> cases dy <;> simp only [gAdd, reduceCtorEq] at h
  · cases h
    exact .inl ⟨_, _, repW_int r1, repW_int r2, q _ H (Same.refl H) (RepM.of repF_int)⟩
  · split at h <;> cases h
    rename_i hs
    exact .inr (.inl ⟨_, _, repW_str r1, repW_str r2, small_le hs, q _ H (Same.refl H) (RepM.of repF_str)⟩)
  · split at h <;> cases h
    rename_i xs ys hs
    obtain ⟨a, vs, rfl, ha, ra⟩ := repW_tup r1
    obtain ⟨b, us, rfl, hb, rb⟩ := repW_tup r2
    refine .inr (.inr (.inl ⟨a, b, vs, us, rfl, rfl, ha, hb, by rw [ra.length, rb.length]; exact small_le hs, fun e => ?_, fun _ e => ?_, fun _ _ p hp => ?_⟩))
    · have e1 : xs = [] := by have := ra.length; rw [e] at this; exact List.eq_nil_of_length_eq_zero this.symm
      subst e1
      exact q _ H (Same.refl H) (repF_tup hb rb)
    · have e1 : ys = [] := by have := rb.length; rw [e] at this; exact List.eq_nil_of_length_eq_zero this.symm
      subst e1
      refine q _ H (Same.refl H) ?_
      rw [List.append_nil]
      exact repF_tup ha ra
    · refine q _ _ (same_new hp) ?_
      exact repF_tup (.of upd_same) ((ra.append rb).ext (Ext.of (same_new hp)))
  · split at h <;> cases h
    rename_i xs ys hs
    obtain ⟨a, vs, rfl, ha, ra⟩ := repW_lst r1
    obtain ⟨b, us, rfl, hb, rb⟩ := repW_lst r2
    refine .inr (.inr (.inr ⟨a, b, vs, us, rfl, rfl, ha, hb, by rw [ra.length, rb.length]; exact small_le hs, fun p hp => ?_⟩))
    refine q _ _ (same_new hp) ?_
    exact ⟨p, _, rfl, hp, upd_same, (ra.append rb).ext (Ext.of (same_new hp))⟩
variable {e a b : Expr} {f fa fb : Rho → Option D} {pos : Pos}
theorem me_add (ha : WE X a fa) (hb : WE X b fb) : ME X (.BinOp a .Add b pos) (b2 gAdd fa fb) := me_op op_add4 rul_add ha hb
theorem fe_add (ha : WE X a fa) (hb : WE X b fb) : FE X (.BinOp a .Add b pos) (fz (b2 gAdd fa fb)) := fe_of_me (me_add ha hb)

/-! ### * -/
theorem tuple_mul1 (l : Addr) (items : Array Value) (n : Nat) (dd : Option Addr) (sl : Array (Option Value)) (x : Int) (u : Tok) (c0 : (decide (x < -(2 ^ 63)) || decide (x ≥ 2 ^ 63)) = false) (c1 : (items.isEmpty || x == 1) = true) :
    Meets (Builtin.«tuple.__mul__» ⟨[.ref l, .int x u], []⟩) (fun _ R s => s.heap.get? l = some { cls := .type "tuple", dict := dd, data := .seq items n, slots := sl } ∧
      R (.ok (.ret (Value.ref l))) s) :=
  .of_wp fun prog w A R s h => by
    obtain ⟨hp, g, d, tk, os⟩ := s
    obtain ⟨hl, h⟩ := h
    have f1 := AutoSeq1.idx_int
    wp_walk using wpAny_loadPart' hl
    rw [c0]
    wp_walk using wpAny_loadPart' hl
    exact ⟨_, rfl, h⟩
theorem tuple_mul0 (l : Addr) (items : Array Value) (n : Nat) (dd : Option Addr) (sl : Array (Option Value)) (x : Int) (u : Tok) (c0 : (decide (x < -(2 ^ 63)) || decide (x ≥ 2 ^ 63)) = false) (c1 : (items.isEmpty || x == 1) = false) (c2 : (decide (x ≤ 0) || items.isEmpty) = true) :
    Meets (Builtin.«tuple.__mul__» ⟨[.ref l, .int x u], []⟩) (fun _ R s => s.heap.get? l = some { cls := .type "tuple", dict := dd, data := .seq items n, slots := sl } ∧
      R (.ok (.ret (Value.ref s.heap.objs.size))) { s with heap := s.heap.push { cls := Value.type "tuple", data := Data.seq #[] }, toks := s.toks }) :=
  .of_wp fun prog w A R s h => by
    obtain ⟨hp, g, d, tk, os⟩ := s
    obtain ⟨hl, h⟩ := h
    have f1 := AutoSeq1.idx_int
    wp_walk using wpAny_loadPart' hl
    rw [c0]
    wp_walk using wpAny_loadPart' hl
    exact ⟨_, rfl, h⟩
def rRepT1 (K : PySem.W.Frag) : R2 := fun x y H Q => ∃ l xs, x = .ref l ∧ y = .int 1 ∧ SqT K H l xs ∧ Q (.ref l) H
def rRepT0 (K : PySem.W.Frag) : R2 := fun x y H Q => ∃ l xs k, x = .ref l ∧ y = .int k ∧ SqT K H l xs ∧ xs ≠ [] ∧ k ≤ 0 ∧ -(2 ^ 62) ≤ k ∧ ∀ p, H p = none → Q (.ref p) (upd H p (.tup []))
theorem op_repT1 : OpR X (binaryOp .Mult) (rRepT1 X.K) := by
  intro pins s σ H x y v u Q I rx ry h
  obtain ⟨l, xs, rfl, rfl, hT, q⟩ := h
  cases rx
  obtain ⟨t, rfl⟩ := ry
  obtain ⟨its, r, ⟨⟨cls, dd, data, sl⟩, ho, hc, n, hd⟩, hs⟩ := I.tuple hT
  simp only at hc hd
  subst hc hd
  refine wpAny_binaryOp_repeat_ref (T := "tuple") (U := "int") (by decide) ⟨_, ho, rfl⟩ (fun s' => typeIs_int s' 1 t) noFill_tuple_mul F.fills_int_mul F.slot_int_rmul repeat_tuple F.slot_int_index.lookup
    (call_meets F.slot_int_rmul (typeIs_int s 1 t) F.entry_int_rmul (F.args_int_rmul_2 _ _) (int_rmul_tuple 1 t l its.toArray n dd sl)
      ⟨ho, rfl, ⟨_, ho, rfl⟩, call_meets F.slot_tuple_mul ⟨_, ho, rfl⟩ F.entry_tuple_mul (F.args_tuple_mul_2 _ _) (tuple_mul1 l its.toArray n dd sl 1 t (by decide) (by simp)) ⟨ho, ?_⟩⟩)
  exact ⟨.ref l, H, I, rfl, q⟩
theorem op_repT0 : OpR X (binaryOp .Mult) (rRepT0 X.K) := by
  intro pins s σ H x y v u Q I rx ry h
  obtain ⟨l, xs, k, rfl, rfl, hT, hne, h1, h2, q⟩ := h
  cases rx
  obtain ⟨t, rfl⟩ := ry
  obtain ⟨its, r, ⟨⟨cls, dd, data, sl⟩, ho, hc, n, hd⟩, hs⟩ := I.tuple hT
  simp only at hc hd
  subst hc hd
  have hle : its.length = xs.length := r.length.symm
  have hi : its.toArray.isEmpty = false := by
    cases its with
    | nil => exact absurd (List.eq_nil_of_length_eq_zero hle.symm) hne
    | cons a b => rfl
  have c0 : (decide (k < -(2 ^ 63)) || decide (k ≥ 2 ^ 63)) = false := by
    rw [decide_eq_false (by omega), decide_eq_false (by omega)] <;> rfl
  have c1 : (its.toArray.isEmpty || k == 1) = false := by
    rw [hi, Bool.false_or]
    exact beq_eq_false_iff_ne.mpr (by omega)
  have c2 : (decide (k ≤ 0) || its.toArray.isEmpty) = true := by
    rw [decide_eq_true h1, Bool.true_or]
  refine wpAny_binaryOp_repeat_ref (T := "tuple") (U := "int") (by decide) ⟨_, ho, rfl⟩ (fun s' => typeIs_int s' k t) noFill_tuple_mul F.fills_int_mul F.slot_int_rmul repeat_tuple F.slot_int_index.lookup
    (call_meets F.slot_int_rmul (typeIs_int s k t) F.entry_int_rmul (F.args_int_rmul_2 _ _) (int_rmul_tuple k t l its.toArray n dd sl)
      ⟨ho, rfl, ⟨_, ho, rfl⟩, call_meets F.slot_tuple_mul ⟨_, ho, rfl⟩ F.entry_tuple_mul (F.args_tuple_mul_2 _ _) (tuple_mul0 l its.toArray n dd sl k t c0 c1 c2) ⟨ho, ?_⟩⟩)
  refine ⟨.ref s.heap.objs.size, _, I.laid (t' := s.toks) (o := .tup []) (fun b ob q => Heap.get?_push_of_some _ q) (Nat.le_refl _) ?_, rfl, q _ (I.hok.fresh (Nat.le_refl _))⟩
  exact ⟨Nat.zero_le _, [], .nil, IsTup.new _ _⟩
def rRepL : R2 := fun x y H Q => ∃ l k xs, x = .ref l ∧ y = .int k ∧ Rd H l (.lst xs) ∧ -(2 ^ 63) ≤ k ∧ k < 2 ^ 63 ∧ xs.length * k.toNat ≤ sizeLine ∧
  ∀ p, H p = none → Q (.ref p) (upd H p (.lst (List.replicate k.toNat xs).flatten))
theorem op_repL : OpR X (binaryOp .Mult) rRepL := by
  intro pins s σ H x y v u Q I rx ry h
  obtain ⟨l, k, xs, rfl, rfl, hH, h1, h2, hz, q⟩ := h
  cases rx
  obtain ⟨t, rfl⟩ := ry
  obtain ⟨z, its, n, r, hl, e⟩ := inv_rdL I hH
  have hlen : its.toArray.size * k.toNat ≤ sizeLine := by rw [List.size_toArray, ← hl]; exact hz
  have hcap : ¬ its.toArray.size * k.toNat > (2 ^ 63 - 1) / 8 := by
    have : (sizeLine : Nat) ≤ (2 ^ 63 - 1) / 8 := by decide
    omega
  have hfit : ¬ (!Builtin.List.listFitsIndex k) = true := by
    rw [fitsIndex_both h1 h2]
    exact Bool.false_ne_true
  have hlong : ¬ Builtin.List.listTooLong (its.toArray.size * k.toNat) = true := by
    rw [notLongL hlen]
    exact Bool.false_ne_true
  have hnew : List.foldl (fun x1 x2 => x1 ++ x2) #[] (List.replicate (if its.toArray.isEmpty = true then 0 else k.toNat) its.toArray) = (List.replicate k.toNat its).flatten.toArray := by
    have f0 : ∀ m : Nat, List.foldl (fun x1 x2 => x1 ++ x2) #[] (List.replicate m its.toArray) = (List.replicate m its).flatten.toArray := fun m => by
      have := foldl_rep its m []
      rw [List.nil_append] at this
      exact this
    rw [f0]
    cases its with
    | nil => simp
    | cons a r' => rw [if_neg (by simp)]
  refine wpAny_binaryOp_repeat_ref (T := "list") (U := "int") (by decide) ⟨_, e, rfl⟩ (fun s' => typeIs_int s' k t) noFill_list_mul F.fills_int_mul F.slot_int_rmul repeat_list F.slot_int_index.lookup
    (call_meets F.slot_int_rmul (typeIs_int s k t) F.entry_int_rmul (F.args_int_rmul_2 _ _) (int___rmul___int_list k t l its.toArray n)
      ⟨e, rfl, ⟨_, e, rfl⟩, call_meets F.slot_list_mul ⟨_, e, rfl⟩ F.entry_list_mul (F.args_list_mul_2 _ _) (AutoListH.list___mul___list_int_3 l its.toArray n k t hfit hcap hlong) ⟨e, ?_⟩⟩)
  rw [hnew]
  exact ⟨.ref _, _, I.lnew (t' := s.toks) (r.rep k.toNat) (by rw [PyProof.Rows.lm_len_rep_flat, Nat.mul_comm]; exact hz), rfl, q _ I.fresh⟩
noncomputable def CMulB (i j : Int) : Bool := cdec ((-(2 ^ 64) < i ∧ i < 2 ^ 64) ∨ (-(2 ^ 64) < j ∧ j < 2 ^ 64))
theorem cmul_ok {i j : Int} (h : CMulB i j = true) : CMul i j := by
  exact cdec_iff.mp h
/-- repeat: the list of items k times (k up to 1000) -/
def rep (k : Int) (xs : List D) : List D := (List.replicate k.toNat xs).flatten
noncomputable def gMul : D → D → Option D
  | .int i, .int j => if CMulB i j then some (.int (i * j)) else none
  | .tup xs, .int k => if xs ≠ [] ∧ xs.length ≤ 1000 ∧ -1000 ≤ k ∧ k ≤ 1000 then some (.tup (rep k xs)) else none
  | .lst xs, .int k => if xs.length ≤ 1000 ∧ -1000 ≤ k ∧ k ≤ 1000 then some (.opn (rep k xs)) else none
  | _, _ => none
def rMul4 (K : PySem.W.Frag) : R2 := fun x y H Q => rI CMul (fun i j => .int (i * j)) x y H Q ∨ rRepT K x y H Q ∨ rRepT1 K x y H Q ∨ rRepT0 K x y H Q ∨ rRepL x y H Q
theorem op_mul4 : OpR X (binaryOp .Mult) (rMul4 X.K) := op_mul.or (op_repT.or (op_repT1.or (op_repT0.or op_repL)))
theorem rul_mul {K : PySem.W.Frag} : RulM K gMul (rMul4 K) := fun dx dy d x y H Q r1 r2 h q => by
  cases dx <;> cases dy <;> simp only [gMul, reduceCtorEq] at h
  · split at h <;> cases h
    rename_i hc
    exact .inl ⟨_, _, repW_int r1, repW_int r2, cmul_ok hc, q _ H (Same.refl H) (RepM.of repF_int)⟩
  · split at h <;> cases h
    rename_i xs k hc
    obtain ⟨hne, hl, h1, h2⟩ := hc
    obtain ⟨a, vs, rfl, ha, ra⟩ := repW_tup r1
    have e2 := repW_int r2
    subst e2
    have hlen := ra.length
    have hvne : vs ≠ [] := fun e => hne (by rw [e] at hlen; exact List.eq_nil_of_length_eq_zero hlen.symm)
    by_cases k1 : k = 1
    · subst k1
      refine .inr (.inr (.inl ⟨a, vs, rfl, rfl, ha, q _ H (Same.refl H) ?_⟩))
      have : rep 1 xs = xs := by simp [rep]
      rw [this]
      exact repF_tup ha ra
    · by_cases k0 : k ≤ 0
      · refine .inr (.inr (.inr (.inl ⟨a, vs, k, rfl, rfl, ha, hvne, k0, by omega, fun p hp => q _ _ (same_new hp) ?_⟩)))
        have : rep k xs = [] := by
          have : k.toNat = 0 := by omega
          simp [rep, this]
        rw [this]
        exact repF_tup (.of upd_same) .nil
      · refine .inr (.inl ⟨a, k, vs, rfl, rfl, ha, hvne, by omega, h2, by omega, fun p hp => q _ _ (same_new hp) ?_⟩)
        exact repF_tup (.of upd_same) ((ra.flat k.toNat).ext (Ext.of (same_new hp)))
  · split at h <;> cases h
    rename_i xs k hc
    obtain ⟨hl, h1, h2⟩ := hc
    obtain ⟨a, vs, rfl, ha, ra⟩ := repW_lst r1
    have e2 := repW_int r2
    subst e2
    have hlen := ra.length
    refine .inr (.inr (.inr (.inr ⟨a, k, vs, rfl, rfl, ha, by omega, by omega, ?_, fun p hp => q _ _ (same_new hp) ?_⟩)))
    · rw [sizeLine_eq]
      have : vs.length * k.toNat ≤ 1000 * 1000 := Nat.mul_le_mul (by omega) (by omega)
      omega
    · exact ⟨p, _, rfl, hp, upd_same, (ra.flat k.toNat).ext (Ext.of (same_new hp))⟩
theorem me_mul (ha : WE X a fa) (hb : WE X b fb) : ME X (.BinOp a .Mult b pos) (b2 gMul fa fb) := me_op op_mul4 rul_mul ha hb
theorem fe_mul (ha : WE X a fa) (hb : WE X b fb) : FE X (.BinOp a .Mult b pos) (fz (b2 gMul fa fb)) := fe_of_me (me_mul ha hb)
end
end PL
/-! ### part PL4 -/
namespace PL
open PySem PySem.Spec PyProof.Rows L2

/-! ### == -/
mutual
def eqD : D → D → Bool
  | .non, .non => true
  | .bl a, .bl b => a == b
  | .bl a, .int j => (if a then 1 else 0) == j
  | .int i, .bl b => i == (if b then 1 else 0)
  | .int i, .int j => i == j
  | .str x, .str y => x == y
  | .lst xs, .lst ys => eqL xs ys
  | .tup xs, .tup ys => eqL xs ys
  | _, _ => false
def eqL : List D → List D → Bool
  | [], [] => true
  | x :: xs, y :: ys => eqD x y && eqL xs ys
  | _, _ => false
end
mutual
def toPy : D → PyData
  | .non => .none
  | .bl b => .bool b
  | .int i => .int i
  | .str x => .str x
  | .tup xs => .tuple (toPyL xs)
  | .lst xs => .list (toPyL xs)
  | .opn _ => .dict []
  | .scr _ => .dict []
  | .dic _ => .dict []
  | .obj _ _ _ => .dict []
  | .adr _ => .dict []
def toPyL : List D → List PyData
  | [] => []
  | x :: xs => toPy x :: toPyL xs
end
/-! data that == reads: at most n deep -/
mutual
def okD : Nat → D → Bool
  | _, .non => true
  | _, .bl _ => true
  | _, .int _ => true
  | _, .str x => x.cps.all (· < 0x110000)
  | n + 1, .tup xs => okL n xs
  | n + 1, .lst xs => okL n xs
  | _, _ => false
def okL : Nat → List D → Bool
  | _, [] => true
  | n, x :: xs => okD n x && okL n xs
end
mutual
theorem eqv_toPy : ∀ (n m : Nat) (a b : D), okD n a = true → okD m b = true → PyData.eqv (toPy a) (toPy b) = eqD a b := by
  intro n m a b h1 h2
  cases a <;> cases b <;> (try (cases n <;> simp only [okD, Bool.false_eq_true] at h1)) <;> (try (cases m <;> simp only [okD, Bool.false_eq_true] at h2)) <;> simp only [toPy, PyData.eqv, eqD]
  all_goals exact eqvL_toPy _ _ _ _ h1 h2
theorem eqvL_toPy : ∀ (n m : Nat) (a b : List D), okL n a = true → okL m b = true → PyData.eqvAll (toPyL a) (toPyL b) = eqL a b
  | _, _, [], [], _, _ => by simp only [toPyL, PyData.eqvAll, eqL]
  | _, _, [], _ :: _, _, _ => by simp only [toPyL, PyData.eqvAll, eqL]
  | _, _, _ :: _, [], _, _ => by simp only [toPyL, PyData.eqvAll, eqL]
  | n, m, x :: xs, y :: ys, h1, h2 => by
    simp only [okL, Bool.and_eq_true] at h1 h2
    simp only [toPyL, PyData.eqvAll, eqL]
    rw [eqv_toPy n m x y h1.1 h2.1, eqvL_toPy n m xs ys h1.2 h2.2]
end
mutual
theorem ok_shape : ∀ (n : Nat) (a : D), okD n a = true → (toPy a).canLay0 = true ∧ (toPy a).depth ≤ n := by
  intro n a h
  cases a <;> cases n <;> simp only [okD, Bool.false_eq_true] at h <;> simp only [toPy, PyData.canLay0, PyData.depth, Nat.zero_le, true_and, and_true]
  all_goals first
    | exact h
    | (obtain ⟨h1, h2⟩ := okL_shape _ _ h
       exact ⟨h1, Nat.succ_le_succ h2⟩)
theorem okL_shape : ∀ (n : Nat) (a : List D), okL n a = true → PyData.canLayAll0 (toPyL a) = true ∧ PyData.depthAll (toPyL a) ≤ n
  | n, [], _ => by simp [toPyL, PyData.canLayAll0, PyData.depthAll]
  | n, x :: xs, h => by
    simp only [okL, Bool.and_eq_true] at h
    obtain ⟨a1, a2⟩ := ok_shape n x h.1
    obtain ⟨b1, b2⟩ := okL_shape n xs h.2
    simp only [toPyL, PyData.canLayAll0, PyData.depthAll, a1, b1, Bool.and_self, true_and]
    exact Nat.max_le.mpr ⟨a2, b2⟩
end
theorem ok_shaped {n : Nat} {a : D} (hn : n ≤ 64) (h : okD n a = true) : SeqAt.shaped (toPy a) = true := by
  obtain ⟨h1, h2⟩ := ok_shape n a h
  unfold SeqAt.shaped
  rw [h1, decide_eq_true (Nat.le_trans h2 hn)]
  rfl
mutual
theorem dp_of {K : PySem.W.Frag} {H : Hp} : ∀ (n : Nat) (d : D) (v : V), okD n d = true → RepF K H d v → Dp K H v (toPy d) := by
  intro n d v hk h
  cases d <;> cases n <;> simp only [okD, Bool.false_eq_true] at hk <;> simp only [RepF] at h <;> simp only [toPy]
  all_goals first
    | (subst h; constructor)
    | (obtain ⟨a, vs, rfl, h2, h3⟩ := h
       exact .tup h2 (dpL_of _ _ _ hk h3))
    | (obtain ⟨a, vs, o, rfl, h2, h3⟩ := h
       exact .lst (.inl (.inr ⟨o, h2⟩)) (dpL_of _ _ _ hk h3))
theorem dpL_of {K : PySem.W.Frag} {H : Hp} : ∀ (n : Nat) (d : List D) (v : List V), okL n d = true → RepL K H d v → DpAll K H v (toPyL d)
  | n, [], v, hk, h => by
    simp only [RepL] at h
    subst h
    simp only [toPyL]
    exact .nil
  | n, x :: xs, v, hk, h => by
    simp only [okL, Bool.and_eq_true] at hk
    simp only [RepL] at h
    obtain ⟨u, r, rfl, h2, h3⟩ := h
    simp only [toPyL]
    exact .cons (dp_of n x u hk.1 h2) (dpL_of n xs r hk.2 h3)
end
theorem dpW_of {K : PySem.W.Frag} {H : Hp} {n : Nat} {d : D} {v : V} (hk : okD n d = true) (h : RepW K H d v) : Dp K H v (toPy d) := by
  cases d with
  | lst ds =>
    cases n with
    | zero => simp [okD] at hk
    | succ n =>
      simp only [okD] at hk
      obtain ⟨a, vs, rfl, h2, h3⟩ := h
      simp only [toPy]
      exact .lst (.inl h2) (dpL_of _ _ _ hk h3)
  | obj o c ds => cases n <;> simp [okD] at hk
  | _ => exact dp_of n _ _ hk h
/-- how deep data may be where it is compared -/
abbrev DEEP : Nat := 12
def gEq : D → D → Option D := fun x y => if okD DEEP x && okD DEEP y then some (.bl (eqD x y)) else none
def gNe : D → D → Option D := fun x y => if okD DEEP x && okD DEEP y then some (.bl (!eqD x y)) else none
theorem rul_eq {K : PySem.W.Frag} : RulF K gEq (rEqD K) := fun dx dy d x y H Q r1 r2 h q => by
  unfold gEq at h
  split at h <;> cases h
  rename_i hk
  rw [Bool.and_eq_true] at hk
  refine ⟨toPy dx, toPy dy, dpW_of hk.1 r1, dpW_of hk.2 r2, ok_shaped (by decide) hk.1, ok_shaped (by decide) hk.2, ?_⟩
  rw [eqv_toPy _ _ _ _ hk.1 hk.2]
  exact q _ H (Same.refl H) repF_bl
theorem rul_ne {K : PySem.W.Frag} : RulF K gNe (rNeD K) := fun dx dy d x y H Q r1 r2 h q => by
  unfold gNe at h
  split at h <;> cases h
  rename_i hk
  rw [Bool.and_eq_true] at hk
  refine ⟨toPy dx, toPy dy, dpW_of hk.1 r1, dpW_of hk.2 r2, ok_shaped (by decide) hk.1, ok_shaped (by decide) hk.2, ?_⟩
  rw [eqv_toPy _ _ _ _ hk.1 hk.2]
  exact q _ H (Same.refl H) repF_bl
/-- in a list, a tuple, a text -/
def anyD (x : D) : List D → Bool
  | [] => false
  | y :: ys => eqD y x || anyD x ys
theorem any_toPy {n m : Nat} {x : D} : ∀ {ys : List D}, okD n x = true → okL m ys = true → ((toPyL ys).any fun z => PyData.eqv z (toPy x)) = anyD x ys
  | [], _, _ => by simp [toPyL, anyD]
  | y :: ys, h1, h2 => by
    simp only [okL, Bool.and_eq_true] at h2
    simp only [toPyL, List.any_cons, anyD]
    rw [any_toPy h1 h2.2, eqv_toPy _ _ _ _ h2.1 h1]

section
variable {X : Cx} {e a b c : Expr} {f fa fb fc : Rho → Option D} {pos : Pos}
/-- tuples: x in t -/
def rInT (K : PySem.W.Frag) (neg : Bool) : R2 := fun x y H Q => ∃ d ds, Dp K H x d ∧ Dp K H y (.tuple ds) ∧ SeqAt.shaped d = true ∧ SeqAt.shaped (.tuple ds) = true ∧ Q (.bl (if neg then !ds.any fun z => PyData.eqv z d else ds.any fun z => PyData.eqv z d)) H
theorem inT_aux (hu : X.A.units + 65 < cLine) {pins : List (Addr × Obj)} {s : Shared} {σ : L2.St} {H : Hp} (I : Inv X pins σ H s) {d : PyData} {ds : List PyData} {x y : V} {v u : Value} (rx : RelV x v) (ry : RelV y u) (hd : Dp X.K H x d) (he : Dp X.K H y (.tuple ds)) (sd : SeqAt.shaped d = true) (se : SeqAt.shaped (.tuple ds) = true) :
    ∃ (l : Addr) (its : List Value), u = .ref l ∧ IsTup s.heap l its.toArray ∧ its.map (SeqAt.readOf s.heap) = ds ∧ ∀ w ∈ its, SeqAt.EqAt X.A.in1 s w v (PyData.eqv (SeqAt.readOf s.heap w) d) := by
  obtain ⟨as, r1⟩ := Dp.reads I d x v hd rx
  have hxs : PyData.canLayAll0 ds = true := SeqAt.canLay_of_shaped se
  have hroom : X.A.units + 1 + min (PyData.depthAll ds) d.depth < cLine := room_in_shaped sd hu
  cases he with
  | tup hs ha =>
    cases ry
    obtain ⟨its, rv, ht, hlen⟩ := I.tuple hs
    obtain ⟨as', h4⟩ := Dp.readsAll I ds _ its ha rv
    refine ⟨_, its, rfl, ht, SeqAt.readsAll_map ds its as' hxs h4, fun w hw => ?_⟩
    exact SeqAt.items_eqAt (vs := its.toArray) (show ReadsAll s.heap its.toArray.toList ds as' from h4) r1 hxs (SeqAt.canLay_of_shaped sd) hroom w (by simpa using hw)
theorem op_inT (hu : X.A.units + 65 < cLine) : OpR X (compareOp .In) (rInT X.K false) := by
  intro pins s σ H x y v u Q I rx ry h
  obtain ⟨d, ds, hd, he, sd, se, q⟩ := h
  obtain ⟨l, its, rfl, ht, hm, ha⟩ := inT_aux hu I rx ry hd he sd se
  refine SeqAt.in_tupleAt (fun w => PyData.eqv (SeqAt.readOf s.heap w) d) ht (fun w hw => ha w (by simpa using hw)) ⟨.bl _, H, I, rfl, ?_⟩
  have e1 : (its.toArray.any fun w => PyData.eqv (SeqAt.readOf s.heap w) d) = ds.any fun z => PyData.eqv z d := by
    rw [← hm, List.any_map]; simp [Function.comp_def]
  rw [e1]; exact q
theorem op_notInT (hu : X.A.units + 65 < cLine) : OpR X (compareOp .NotIn) (rInT X.K true) := by
  intro pins s σ H x y v u Q I rx ry h
  obtain ⟨d, ds, hd, he, sd, se, q⟩ := h
  obtain ⟨l, its, rfl, ht, hm, ha⟩ := inT_aux hu I rx ry hd he sd se
  refine SeqAt.notIn_tupleAt (fun w => PyData.eqv (SeqAt.readOf s.heap w) d) ht (fun w hw => ha w (by simpa using hw)) ⟨.bl _, H, I, rfl, ?_⟩
  have e1 : (its.toArray.any fun w => PyData.eqv (SeqAt.readOf s.heap w) d) = ds.any fun z => PyData.eqv z d := by
    rw [← hm, List.any_map]; simp [Function.comp_def]
  rw [e1]; exact q
end
end PL
/-! ### part PL5 -/
namespace PL
open PySem PySem.Spec PyProof.Rows L2

def asB : D → Option Bool
  | .bl b => some b
  | _ => none
theorem asB_some {d : D} {b : Bool} (h : asB d = some b) : d = .bl b := by cases d <;> simp [asB] at h; rw [h]
/-- a value's mirror as a test's -/
def tb (f : Rho → Option D) : Rho → Option Bool := fun ρ => (f ρ).bind asB
/-- a test's mirror as a value's -/
def vb (f : Rho → Option Bool) : Rho → Option D := fun ρ => (f ρ).map .bl
theorem repF_blv {K : PySem.W.Frag} {H : Hp} {b : Bool} {v : V} (h : RepF K H (.bl b) v) : v = .bl b := by simpa only [RepF] using h

def gLt : D → D → Option D
  | .int i, .int j => some (.bl (decide (i < j)))
  | _, _ => none
def gLe : D → D → Option D
  | .int i, .int j => some (.bl (decide (i ≤ j)))
  | _, _ => none
def gGt : D → D → Option D
  | .int i, .int j => some (.bl (decide (j < i)))
  | _, _ => none
def gGe : D → D → Option D
  | .int i, .int j => some (.bl (decide (j ≤ i)))
  | _, _ => none
theorem rul_lt {K : PySem.W.Frag} : RulF K gLt (rI0 fun i j => .bl (decide (i < j))) := fun dx dy d x y H Q r1 r2 h q => by
  cases dx <;> cases dy <;> simp only [gLt, reduceCtorEq] at h
  cases h
  exact ⟨_, _, repW_int r1, repW_int r2, q _ H (Same.refl H) repF_bl⟩
theorem rul_le {K : PySem.W.Frag} : RulF K gLe (rI0 fun i j => .bl (decide (i ≤ j))) := fun dx dy d x y H Q r1 r2 h q => by
  cases dx <;> cases dy <;> simp only [gLe, reduceCtorEq] at h
  cases h
  exact ⟨_, _, repW_int r1, repW_int r2, q _ H (Same.refl H) repF_bl⟩
theorem rul_gt {K : PySem.W.Frag} : RulF K gGt (rI0 fun i j => .bl (decide (j < i))) := fun dx dy d x y H Q r1 r2 h q => by
  cases dx <;> cases dy <;> simp only [gGt, reduceCtorEq] at h
  cases h
  exact ⟨_, _, repW_int r1, repW_int r2, q _ H (Same.refl H) repF_bl⟩
theorem rul_ge {K : PySem.W.Frag} : RulF K gGe (rI0 fun i j => .bl (decide (j ≤ i))) := fun dx dy d x y H Q r1 r2 h q => by
  cases dx <;> cases dy <;> simp only [gGe, reduceCtorEq] at h
  cases h
  exact ⟨_, _, repW_int r1, repW_int r2, q _ H (Same.refl H) repF_bl⟩
/-- is None -/
def gIs : D → D → Option D
  | .non, .non => some (.bl true)
  | .int _, .non | .str _, .non | .bl _, .non | .tup _, .non | .lst _, .non | .scr _, .non => some (.bl false)
  | .bl a, .bl b => some (.bl (decide (a = b)))
  | _, _ => none
def gIsNot : D → D → Option D
  | .non, .non => some (.bl false)
  | .int _, .non | .str _, .non | .bl _, .non | .tup _, .non | .lst _, .non | .scr _, .non => some (.bl true)
  | .bl a, .bl b => some (.bl (!decide (a = b)))
  | _, _ => none
def rIs2 : R2 := fun x y H Q => (y = .non ∧ Q (.bl (decide (x = .non))) H) ∨ rIsB x y H Q
def rIsNot2 : R2 := fun x y H Q => (y = .non ∧ Q (.bl (!decide (x = .non))) H) ∨ rNotB x y H Q
theorem repW_ref {K : PySem.W.Frag} {H : Hp} {d : D} {v : V} (h : RepW K H d v) (hd : (∃ xs, d = .tup xs) ∨ (∃ xs, d = .lst xs) ∨ ∃ xs, d = .scr xs) : ∃ a, v = .ref a := by
  rcases hd with ⟨xs, rfl⟩ | ⟨xs, rfl⟩ | ⟨xs, rfl⟩
  · obtain ⟨a, _, e, _⟩ := repW_tup h; exact ⟨a, e⟩
  · obtain ⟨a, _, e, _⟩ := repW_lst h; exact ⟨a, e⟩
  · have h : RepF K H (.scr xs) v := h
    simp only [RepF] at h
    obtain ⟨a, e, _⟩ := h; exact ⟨a, e⟩
theorem rul_is {K : PySem.W.Frag} : RulF K gIs rIs2 := fun dx dy d x y H Q r1 r2 h q => by
  cases dx <;> cases dy <;> simp only [gIs, reduceCtorEq] at h <;> cases h
  · have := repW_non r1; have := repW_non r2; subst_vars
    exact .inl ⟨rfl, q _ H (Same.refl H) repF_bl⟩
  · have := repW_bl r1; have := repW_non r2; subst_vars
    exact .inl ⟨rfl, q _ H (Same.refl H) repF_bl⟩
  · have := repW_bl r1; have := repW_bl r2; subst_vars
    exact .inr ⟨_, _, rfl, rfl, q _ H (Same.refl H) repF_bl⟩
  · have := repW_int r1; have := repW_non r2; subst_vars
    exact .inl ⟨rfl, q _ H (Same.refl H) repF_bl⟩
  · have := repW_str r1; have := repW_non r2; subst_vars
    exact .inl ⟨rfl, q _ H (Same.refl H) repF_bl⟩
  · obtain ⟨a, rfl⟩ := repW_ref r1 (.inl ⟨_, rfl⟩); have := repW_non r2; subst_vars
    exact .inl ⟨rfl, q _ H (Same.refl H) repF_bl⟩
  · obtain ⟨a, rfl⟩ := repW_ref r1 (.inr (.inl ⟨_, rfl⟩)); have := repW_non r2; subst_vars
    exact .inl ⟨rfl, q _ H (Same.refl H) repF_bl⟩
  · obtain ⟨a, rfl⟩ := repW_ref r1 (.inr (.inr ⟨_, rfl⟩)); have := repW_non r2; subst_vars
    exact .inl ⟨rfl, q _ H (Same.refl H) repF_bl⟩
theorem rul_isnot {K : PySem.W.Frag} : RulF K gIsNot rIsNot2 := fun dx dy d x y H Q r1 r2 h q => by
  cases dx <;> cases dy <;> simp only [gIsNot, reduceCtorEq] at h <;> cases h
  · have := repW_non r1; have := repW_non r2; subst_vars
    exact .inl ⟨rfl, q _ H (Same.refl H) repF_bl⟩
  · have := repW_bl r1; have := repW_non r2; subst_vars
    exact .inl ⟨rfl, q _ H (Same.refl H) repF_bl⟩
  · have := repW_bl r1; have := repW_bl r2; subst_vars
    exact .inr ⟨_, _, rfl, rfl, q _ H (Same.refl H) repF_bl⟩
  · have := repW_int r1; have := repW_non r2; subst_vars
    exact .inl ⟨rfl, q _ H (Same.refl H) repF_bl⟩
  · have := repW_str r1; have := repW_non r2; subst_vars
    exact .inl ⟨rfl, q _ H (Same.refl H) repF_bl⟩
  · obtain ⟨a, rfl⟩ := repW_ref r1 (.inl ⟨_, rfl⟩); have := repW_non r2; subst_vars
    exact .inl ⟨rfl, q _ H (Same.refl H) repF_bl⟩
  · obtain ⟨a, rfl⟩ := repW_ref r1 (.inr (.inl ⟨_, rfl⟩)); have := repW_non r2; subst_vars
    exact .inl ⟨rfl, q _ H (Same.refl H) repF_bl⟩
  · obtain ⟨a, rfl⟩ := repW_ref r1 (.inr (.inr ⟨_, rfl⟩)); have := repW_non r2; subst_vars
    exact .inl ⟨rfl, q _ H (Same.refl H) repF_bl⟩
/-- in -/
def inD : D → D → Option Bool
  | x, .lst ys => if okD DEEP x && okD DEEP (.lst ys) then some (anyD x ys) else none
  | x, .tup ys => if okD DEEP x && okD DEEP (.tup ys) then some (anyD x ys) else none
  | .str ⟨cs⟩, .str z => match cs.toList with
    | [c] => some (decide (c ∈ z.cps.toList))
    | _ => none
  | _, _ => none
def gIn : D → D → Option D := fun x y => (inD x y).map .bl
def gNotIn : D → D → Option D := fun x y => (inD x y).map fun b => .bl (!b)
def rIn3 (K : PySem.W.Frag) : R2 := fun x y H Q => rInD K x y H Q ∨ rInT K false x y H Q ∨ ∃ (c : Nat) (z : Str), x = .str ⟨#[c]⟩ ∧ y = .str z ∧ Q (.bl (decide (c ∈ z.cps.toList))) H
def rNotIn3 (K : PySem.W.Frag) : R2 := fun x y H Q => rNotInD K x y H Q ∨ rInT K true x y H Q ∨ ∃ (c : Nat) (z : Str), x = .str ⟨#[c]⟩ ∧ y = .str z ∧ Q (.bl (!decide (c ∈ z.cps.toList))) H
theorem one_arr {cs : Array Nat} {c : Nat} (h : cs.toList = [c]) : cs = #[c] := by
  have : cs.toList.toArray = [c].toArray := by rw [h]
  simpa using this
theorem inD_cases {K : PySem.W.Frag} {dx dy : D} {x y : V} {H : Hp} {b : Bool} (r1 : RepW K H dx x) (r2 : RepW K H dy y) (h : inD dx dy = some b) :
    (∃ d ds, Dp K H x d ∧ Dp K H y (.list ds) ∧ SeqAt.shaped d = true ∧ SeqAt.shaped (.list ds) = true ∧ (ds.any fun z => PyData.eqv z d) = b) ∨
    (∃ d ds, Dp K H x d ∧ Dp K H y (.tuple ds) ∧ SeqAt.shaped d = true ∧ SeqAt.shaped (.tuple ds) = true ∧ (ds.any fun z => PyData.eqv z d) = b) ∨
    ∃ (c : Nat) (z : Str), x = .str ⟨#[c]⟩ ∧ y = .str z ∧ decide (c ∈ z.cps.toList) = b := by
  cases dy with
  | lst ys =>
    have h' : (if okD DEEP dx && okD DEEP (.lst ys) then some (anyD dx ys) else none) = some b := by cases dx <;> exact h
    split at h' <;> cases h'
    rename_i hk
    rw [Bool.and_eq_true] at hk
    have d2 := dpW_of hk.2 r2
    have s2 := ok_shaped (by decide) hk.2
    simp only [toPy] at d2 s2
    refine .inl ⟨toPy dx, toPyL ys, dpW_of hk.1 r1, d2, ok_shaped (by decide) hk.1, s2, ?_⟩
    have hl : okL 11 ys = true := by simpa only [okD] using hk.2
    exact any_toPy hk.1 hl
  | tup ys =>
    have h' : (if okD DEEP dx && okD DEEP (.tup ys) then some (anyD dx ys) else none) = some b := by cases dx <;> exact h
    split at h' <;> cases h'
    rename_i hk
    rw [Bool.and_eq_true] at hk
    have d2 := dpW_of hk.2 r2
    have s2 := ok_shaped (by decide) hk.2
    simp only [toPy] at d2 s2
    refine .inr (.inl ⟨toPy dx, toPyL ys, dpW_of hk.1 r1, d2, ok_shaped (by decide) hk.1, s2, ?_⟩)
    have hl : okL 11 ys = true := by simpa only [okD] using hk.2
    exact any_toPy hk.1 hl
  | str z =>
    cases dx with
    | str x0 =>
      obtain ⟨cs⟩ := x0
      simp only [inD] at h
      split at h <;> cases h
      rename_i c hc
      have := one_arr hc
      subst this
      exact .inr (.inr ⟨c, z, repW_str r1, repW_str r2, rfl⟩)
    | _ => simp [inD] at h
  | _ => cases dx <;> simp [inD] at h
theorem rul_in {K : PySem.W.Frag} : RulF K gIn (rIn3 K) := fun dx dy d x y H Q r1 r2 h q => by
  obtain ⟨b, hb, rfl⟩ := Option.map_eq_some_iff.mp h
  have fin : Q (.bl b) H := q _ H (Same.refl H) repF_bl
  rcases inD_cases r1 r2 hb with ⟨d, ds, h1, h2, h3, h4, e⟩ | ⟨d, ds, h1, h2, h3, h4, e⟩ | ⟨c, z, h1, h2, e⟩
  · exact .inl ⟨d, ds, h1, h2, h3, h4, by rw [e]; exact fin⟩
  · exact .inr (.inl ⟨d, ds, h1, h2, h3, h4, by simp only [Bool.false_eq_true, if_false]; rw [e]; exact fin⟩)
  · exact .inr (.inr ⟨c, z, h1, h2, by rw [e]; exact fin⟩)
theorem rul_notin {K : PySem.W.Frag} : RulF K gNotIn (rNotIn3 K) := fun dx dy d x y H Q r1 r2 h q => by
  obtain ⟨b, hb, rfl⟩ := Option.map_eq_some_iff.mp h
  have fin : Q (.bl (!b)) H := q _ H (Same.refl H) repF_bl
  rcases inD_cases r1 r2 hb with ⟨d, ds, h1, h2, h3, h4, e⟩ | ⟨d, ds, h1, h2, h3, h4, e⟩ | ⟨c, z, h1, h2, e⟩
  · exact .inl ⟨d, ds, h1, h2, h3, h4, by rw [e]; exact fin⟩
  · exact .inr (.inl ⟨d, ds, h1, h2, h3, h4, by simp only [if_true]; rw [e]; exact fin⟩)
  · exact .inr (.inr ⟨c, z, h1, h2, by rw [e]; exact fin⟩)

section
variable {X : Cx} {e a b c : Expr} {es rest : List Expr} {f fa fb fc : Rho → Option D} {g g1 g2 : Rho → Option Bool} {pos : Pos}
theorem op_is2 : OpR X (compareOp .Is) rIs2 := op_isN.or op_isBl
theorem op_isnot2 : OpR X (compareOp .IsNot) rIsNot2 := op_notN.or op_notBl
theorem op_in3 (hu : X.A.units + 65 < cLine) : OpR X (compareOp .In) (rIn3 X.K) := (op_inD hu).or ((op_inT hu).or op_in_sign)
theorem op_notin3 (hu : X.A.units + 65 < cLine) : OpR X (compareOp .NotIn) (rNotIn3 X.K) := (op_notInD hu).or ((op_notInT hu).or op_notIn_sign)
/-- a rule for a comparison -/
structure CmpR (X : Cx) (op : CmpOp) (g : D → D → Option D) : Prop where
  has : ∃ r, OpR X (compareOp op) r ∧ RulF X.K g r
theorem c_lt : CmpR X .Lt gLt := ⟨_, op_lt, rul_lt⟩
theorem c_le : CmpR X .LtE gLe := ⟨_, op_le, rul_le⟩
theorem c_gt : CmpR X .Gt gGt := ⟨_, op_gt, rul_gt⟩
theorem c_ge : CmpR X .GtE gGe := ⟨_, op_ge, rul_ge⟩
theorem c_eq (hu : X.A.units + 65 < cLine) : CmpR X .Eq gEq := ⟨_, op_eqD (by omega), rul_eq⟩
theorem c_ne (hu : X.A.units + 65 < cLine) : CmpR X .NotEq gNe := ⟨_, op_neD (by omega), rul_ne⟩
theorem c_is : CmpR X .Is gIs := ⟨_, op_is2, rul_is⟩
theorem c_isnot : CmpR X .IsNot gIsNot := ⟨_, op_isnot2, rul_isnot⟩
theorem c_in (hu : X.A.units + 65 < cLine) : CmpR X .In gIn := ⟨_, op_in3 hu, rul_in⟩
theorem c_notin (hu : X.A.units + 65 < cLine) : CmpR X .NotIn gNotIn := ⟨_, op_notin3 hu, rul_notin⟩
theorem fe_cmp {op : CmpOp} {g : D → D → Option D} (r : CmpR X op g) (ha : WE X a fa) (hb : WE X b fb) (hm : behindInMarks op b = false) : FE X (.Compare a [op] [b] pos) (b2 g fa fb) := by
  obtain ⟨r, ho, hr⟩ := r.has
  exact PE.weak (pe_cmpR ho ha hb hm) fun σ H Q h => top_f hr h
theorem be_cmp {op : CmpOp} {g : D → D → Option D} (r : CmpR X op g) (ha : WE X a fa) (hb : WE X b fb) (hm : behindInMarks op b = false) : BE X (.Compare a [op] [b] pos) (tb (b2 g fa fb)) := by
  obtain ⟨r, ho, hr⟩ := r.has
  refine PT.weak (pt_cmpR ho ha hb hm) fun σ H Q ⟨ρ, b, er, hf, q⟩ => ?_
  obtain ⟨d, h1, h2⟩ := Option.bind_eq_some_iff.mp hf
  have := asB_some h2
  subst this
  exact top_f hr ⟨ρ, _, er, h1, fun v H' s r => ⟨b, repF_blv r, q H' s⟩⟩
/-- two comparisons in a chain -/
def b3 (g g' : D → D → Option D) (fa fb fc : Rho → Option D) : Rho → Option D := fun ρ => (fa ρ).bind fun x => (fb ρ).bind fun y => (g x y).bind fun z => (asB z).bind fun k =>
  if k = true then (fc ρ).bind fun w => g' y w else some (.bl false)
theorem tchain_f {r r' : R2} {g g' : D → D → Option D} (hr : RulF X.K g r) (hr' : RulF X.K g' r') {σ : L2.St} {H : Hp} {Q : VK} (h : tF X.K (b3 g g' fa fb fc) σ H Q) : tChain r r' (tW X.K fa) (tW X.K fb) (tW X.K fc) σ H Q := by
  obtain ⟨ρ, d, er, hf, q⟩ := h
  obtain ⟨x, h1, hf1⟩ := Option.bind_eq_some_iff.mp hf
  obtain ⟨y, h2, hf2⟩ := Option.bind_eq_some_iff.mp hf1
  obtain ⟨z, h3, hf3⟩ := Option.bind_eq_some_iff.mp hf2
  obtain ⟨k, h4, hf4⟩ := Option.bind_eq_some_iff.mp hf3
  have := asB_some h4
  subst this
  clear hf hf1 hf2 hf3
  refine ⟨ρ, x, er, h1, fun v H1 s1 r1 => ⟨ρ, y, er.same s1, h2, fun u H2 s2 r2 => hr x y _ v u H2 _ (r1.same s2) r2 h3 fun v' H3 s3 r3 => ⟨k, repF_blv r3, ?_⟩⟩⟩
  cases k with
  | false =>
    simp only [Bool.false_eq_true, if_false] at hf4 ⊢
    cases hf4
    exact q _ _ ((s1.trans s2).trans s3) repF_bl
  | true =>
    simp only [if_true] at hf4 ⊢
    obtain ⟨w', h5, h6⟩ := Option.bind_eq_some_iff.mp hf4
    exact ⟨ρ, w', er.same ((s1.trans s2).trans s3), h5, fun u' H4 s4 r4 => hr' y w' d u u' H4 Q (r2.same (s3.trans s4)) r4 h6 fun v' H' s' r' => q v' H' ((((s1.trans s2).trans s3).trans s4).trans s') r'⟩
theorem fe_chain {op op' : CmpOp} {g g' : D → D → Option D} (r : CmpR X op g) (r' : CmpR X op' g') (ha : WE X a fa) (hb : WE X b fb) (hc : WE X c fc)
    (hm : lastMarks [op, op'] [b, c] = false := by with_unfolding_all rfl) : FE X (.Compare a [op, op'] [b, c] pos) (b3 g g' fa fb fc) := by
  obtain ⟨r, ho, hr⟩ := r.has
  obtain ⟨r', ho', hr'⟩ := r'.has
  exact PE.weak (pe_chain ho ho' ha hb hc hm) fun σ H Q h => tchain_f hr hr' h
theorem be_chain {op op' : CmpOp} {g g' : D → D → Option D} (r : CmpR X op g) (r' : CmpR X op' g') (ha : WE X a fa) (hb : WE X b fb) (hc : WE X c fc)
    (hm : lastMarks [op, op'] [b, c] = false := by with_unfolding_all rfl) : BE X (.Compare a [op, op'] [b, c] pos) (tb (b3 g g' fa fb fc)) := by
  obtain ⟨r, ho, hr⟩ := r.has
  obtain ⟨r', ho', hr'⟩ := r'.has
  refine PT.weak (pt_chain ho ho' ha hb hc hm) fun σ H Q ⟨ρ, b, er, hf, q⟩ => ?_
  obtain ⟨d, h1, h2⟩ := Option.bind_eq_some_iff.mp hf
  have := asB_some h2
  subst this
  exact tchain_f hr hr' ⟨ρ, _, er, h1, fun v H' s r => ⟨b, repF_blv r, q H' s⟩⟩
/-- a bool's value as a test -/
theorem be_val (h : FE X e f) (he : ∀ whole, isTrue e X.env whole = (do let v ← whole; standAt e.pos; holding [v] (truthy v)) := by intro _; rfl) : BE X e (tb f) :=
  PT.weak (pt_val h he) fun σ H Q ⟨ρ, b, er, hf, q⟩ => by
    obtain ⟨d, h1, h2⟩ := Option.bind_eq_some_iff.mp hf
    have := asB_some h2
    subst this
    exact ⟨ρ, _, er, h1, fun v H' s r => ⟨b, repF_blv r, q H' s⟩⟩
def nb (g : Rho → Option Bool) : Rho → Option Bool := fun ρ => (g ρ).map (!·)
theorem be_not (h : BE X a g) : BE X (.UnaryOp .Not a pos) (nb g) := PT.weak (pt_not h) fun σ H Q ⟨ρ, b, er, hf, q⟩ => by
  obtain ⟨c, h1, rfl⟩ := Option.map_eq_some_iff.mp hf
  exact ⟨ρ, c, er, h1, fun H' s => q H' s⟩
theorem fe_not (h : FE X a f) : FE X (.UnaryOp .Not a pos) (vb (nb (tb f))) := PE.weak (pe_not h) fun σ H Q ⟨ρ, d, er, hf, q⟩ => by
  obtain ⟨c, h1, rfl⟩ := Option.map_eq_some_iff.mp hf
  obtain ⟨k, h2, rfl⟩ := Option.map_eq_some_iff.mp h1
  obtain ⟨d, h3, h4⟩ := Option.bind_eq_some_iff.mp h2
  have := asB_some h4
  subst this
  exact ⟨ρ, _, er, h3, fun v H' s r => ⟨k, repF_blv r, q _ H' s repF_bl⟩⟩
/-- and, or as tests -/
def BW (X : Cx) (e : Expr) (f : Rho → Option Bool) : Prop := PW X e (tB X.K f)
theorem be_w (h : BW X e g) : BE X e g := PW.pt h
def fAnd (g1 g2 : Rho → Option Bool) : Rho → Option Bool := fun ρ => (g1 ρ).bind fun c => if c = true then g2 ρ else some false
def fOr (g1 g2 : Rho → Option Bool) : Rho → Option Bool := fun ρ => (g1 ρ).bind fun c => if c = true then some true else g2 ρ
theorem PW.weak {t t' : TT} (h : PW X e t) (k : ∀ σ H Q, t' σ H Q → t σ H Q) : PW X e t' := ⟨fun wh pins s σ H Q I q => h.run wh pins s σ H Q I (k σ H Q q)⟩
theorem bw_and1 (h : BE X a g) : BW X (.BoolOp .And [a] pos) g := pw_and1 h
theorem bw_or1 (h : BE X a g) : BW X (.BoolOp .Or [a] pos) g := pw_or1 h
theorem bw_and (ha : BE X a g1) (hb : BW X (.BoolOp .And (b :: rest) pos) g2) : BW X (.BoolOp .And (a :: b :: rest) pos) (fAnd g1 g2) :=
  PW.weak (pw_and ha hb) fun σ H Q ⟨ρ, k, er, hf, q⟩ => by
    obtain ⟨c, h1, h2⟩ := Option.bind_eq_some_iff.mp hf
    refine ⟨ρ, c, er, h1, fun H1 s1 => ?_⟩
    cases c with
    | true => exact ⟨ρ, k, er.same s1, by simpa using h2, fun H2 s2 => q H2 (s1.trans s2)⟩
    | false => simp at h2; subst h2; exact q H1 s1
theorem bw_or (ha : BE X a g1) (hb : BW X (.BoolOp .Or (b :: rest) pos) g2) : BW X (.BoolOp .Or (a :: b :: rest) pos) (fOr g1 g2) :=
  PW.weak (pw_or ha hb) fun σ H Q ⟨ρ, k, er, hf, q⟩ => by
    obtain ⟨c, h1, h2⟩ := Option.bind_eq_some_iff.mp hf
    refine ⟨ρ, c, er, h1, fun H1 s1 => ?_⟩
    cases c with
    | false => exact ⟨ρ, k, er.same s1, by simpa using h2, fun H2 s2 => q H2 (s1.trans s2)⟩
    | true => simp at h2; subst h2; exact q H1 s1
/-- .. as values -/
def vAnd (f1 f2 : Rho → Option D) : Rho → Option D := fun ρ => (tb f1 ρ).bind fun c => if c = true then f2 ρ else some (.bl false)
def vOr (f1 f2 : Rho → Option D) : Rho → Option D := fun ρ => (tb f1 ρ).bind fun c => if c = true then some (.bl true) else f2 ρ
theorem fe_one {op} (h : FE X a f) : FE X (.BoolOp op [a] pos) f := pe_one h
theorem fe_and (ha : FE X a fa) (hb : FE X (.BoolOp .And (b :: rest) pos) fb) : FE X (.BoolOp .And (a :: b :: rest) pos) (vAnd fa fb) :=
  PE.weak (pe_and ha hb) fun σ H Q ⟨ρ, k, er, hf, q⟩ => by
    obtain ⟨c, h1, h2⟩ := Option.bind_eq_some_iff.mp hf
    obtain ⟨d, h3, h4⟩ := Option.bind_eq_some_iff.mp h1
    have := asB_some h4
    subst this
    refine ⟨ρ, _, er, h3, fun v H1 s1 r1 => ⟨c, repF_blv r1, ?_⟩⟩
    cases c with
    | true => exact ⟨ρ, k, er.same s1, by simpa using h2, fun v H2 s2 r2 => q v H2 (s1.trans s2) r2⟩
    | false => simp at h2; subst h2; exact q _ H1 s1 repF_bl
theorem fe_or (ha : FE X a fa) (hb : FE X (.BoolOp .Or (b :: rest) pos) fb) : FE X (.BoolOp .Or (a :: b :: rest) pos) (vOr fa fb) :=
  PE.weak (pe_or ha hb) fun σ H Q ⟨ρ, k, er, hf, q⟩ => by
    obtain ⟨c, h1, h2⟩ := Option.bind_eq_some_iff.mp hf
    obtain ⟨d, h3, h4⟩ := Option.bind_eq_some_iff.mp h1
    have := asB_some h4
    subst this
    refine ⟨ρ, _, er, h3, fun v H1 s1 r1 => ⟨c, repF_blv r1, ?_⟩⟩
    cases c with
    | false => exact ⟨ρ, k, er.same s1, by simpa using h2, fun v H2 s2 r2 => q v H2 (s1.trans s2) r2⟩
    | true => simp at h2; subst h2; exact q _ H1 s1 repF_bl
def fIf (g : Rho → Option Bool) (fa fb : Rho → Option D) : Rho → Option D := fun ρ => (g ρ).bind fun c => if c = true then fa ρ else fb ρ
theorem fe_if (hc : BE X c g) (ha : FE X a fa) (hb : FE X b fb) : FE X (.IfExp c a b pos) (fIf g fa fb) :=
  PE.weak (pe_ifExp hc ha hb) fun σ H Q ⟨ρ, k, er, hf, q⟩ => by
    obtain ⟨c, h1, h2⟩ := Option.bind_eq_some_iff.mp hf
    refine ⟨ρ, c, er, h1, fun H1 s1 => ?_⟩
    cases c with
    | true => exact ⟨ρ, k, er.same s1, by simpa using h2, fun v H2 s2 r2 => q v H2 (s1.trans s2) r2⟩
    | false => exact ⟨ρ, k, er.same s1, by simpa using h2, fun v H2 s2 r2 => q v H2 (s1.trans s2) r2⟩
end
end PL
/-! ### part PL6 -/
namespace PL
open PySem PySem.Spec PyProof.Rows L2

/-! ### subscripts -/
def gIdx : D → D → Option D
  | .lst xs, .int i => atI xs i
  | .tup xs, .int i => atI xs i
  | .scr ns, .int i => (atI ns i).map .int
  | .str z, .int i => if small z.length then (atI z.cps.toList i).map fun c => .str ⟨#[c]⟩ else none
  | _, _ => none
theorem atI_rep {K : PySem.W.Frag} {H : Hp} {ds : List D} {vs : List V} {i : Int} {d : D} (r : RepL K H ds vs) (h : atI ds i = some d) : ∃ v, atI vs i = some v ∧ RepF K H d v := by
  unfold atI at h ⊢
  obtain ⟨j, h1, h2⟩ := Option.bind_eq_some_iff.mp h
  obtain ⟨v, h3, h4⟩ := r.get h2
  refine ⟨v, ?_, h4⟩
  rw [r.length, h1]
  exact h3
theorem atI_map {α β : Type} {f : α → β} {xs : List α} {i : Int} {x : α} (h : atI xs i = some x) : atI (xs.map f) i = some (f x) := by
  unfold atI at h ⊢
  obtain ⟨j, h1, h2⟩ := Option.bind_eq_some_iff.mp h
  rw [List.length_map, h1]
  simp [h2]
theorem repW_scr {K : PySem.W.Frag} {H : Hp} {ns : List Int} {v : V} (h : RepW K H (.scr ns) v) : ∃ a, v = .ref a ∧ FzL K H a (ns.map V.int) := by
  have h : RepF K H (.scr ns) v := h
  simpa only [RepF] using h
theorem rul_idx {K : PySem.W.Frag} : RulF K gIdx (rIx K) := fun dx dy d x y H Q r1 r2 h q => by
  cases dx <;> cases dy <;> simp only [gIdx, reduceCtorEq] at h
  · split at h
    · rename_i z i hs
      obtain ⟨c, h1, rfl⟩ := Option.map_eq_some_iff.mp h
      exact .inr (.inr ⟨z, i, c, repW_str r1, repW_int r2, small_le hs, h1, q _ H (Same.refl H) repF_str⟩)
    · cases h
  · obtain ⟨a, vs, rfl, ha, ra⟩ := repW_tup r1
    obtain ⟨v, h1, h2⟩ := atI_rep ra h
    exact .inr (.inl ⟨a, vs, _, v, rfl, repW_int r2, ha, h1, q v H (Same.refl H) h2⟩)
  · obtain ⟨a, vs, rfl, ha, ra⟩ := repW_lst r1
    obtain ⟨v, h1, h2⟩ := atI_rep ra h
    exact .inl ⟨a, vs, _, v, rfl, repW_int r2, .inl ha, h1, q v H (Same.refl H) h2⟩
  · obtain ⟨a, rfl, ha⟩ := repW_scr r1
    obtain ⟨n, h1, rfl⟩ := Option.map_eq_some_iff.mp h
    exact .inl ⟨a, _, _, _, rfl, repW_int r2, ha.seq, atI_map h1, q _ H (Same.refl H) repF_int⟩
/-- a dict's item -/
def lookK (k : Key) : List (Key × D) → Option D
  | [] => none
  | (k', d) :: r => if k' = k then some d else lookK k r
def keyD : D → Option Key
  | .int i => some (.inl i)
  | .str x => some (.inr x)
  | _ => none
def gDix : D → D → Option D
  | .dic kvs, y => (keyD y).bind fun k => lookK k kvs
  | _, _ => none
theorem lookK_rep {K : PySem.W.Frag} {H : Hp} {k : Key} : ∀ {kvs : List (Key × D)} {ws : List (Key × V)} {d : D}, RepK K H kvs ws → lookK k kvs = some d → ∃ v, valV ws k = some v ∧ RepF K H d v
  | [], _, _, _, h => by simp [lookK] at h
  | (k', d') :: r, ws, d, hr, h => by
    simp only [RepK] at hr
    obtain ⟨v, s, rfl, h1, h2⟩ := hr
    simp only [lookK] at h
    by_cases e : k' = k
    · rw [if_pos e] at h
      cases h
      exact ⟨v, by simp [valV, e], h1⟩
    · rw [if_neg e] at h
      obtain ⟨u, h3, h4⟩ := lookK_rep h2 h
      exact ⟨u, by rw [← h3]; simp [valV, e], h4⟩
theorem lookK_none {K : PySem.W.Frag} {H : Hp} {k : Key} : ∀ {kvs : List (Key × D)} {ws : List (Key × V)}, RepK K H kvs ws → lookK k kvs = none → valV ws k = none
  | [], ws, hr, _ => by simp only [RepK] at hr; subst hr; simp [valV]
  | (k', d') :: r, ws, hr, h => by
    simp only [RepK] at hr
    obtain ⟨v, s, rfl, h1, h2⟩ := hr
    simp only [lookK] at h
    by_cases e : k' = k
    · rw [if_pos e] at h; cases h
    · rw [if_neg e] at h
      rw [← lookK_none h2 h]; simp [valV, e]
theorem keyD_rep {K : PySem.W.Frag} {H : Hp} {d : D} {k : Key} {v : V} (r : RepW K H d v) (h : keyD d = some k) : v = kV k := by
  cases d <;> simp only [keyD, reduceCtorEq] at h <;> cases h
  · exact repW_int r
  · exact repW_str r

section
variable {X : Cx} {e a b c : Expr} {es rest : List Expr} {f fa fb fc : Rho → Option D} {pos : Pos}
theorem fe_idx (ha : WE X a fa) (hb : WE X b fb) (hs : PlainIx b := by exact fun _ _ => rfl) : FE X (.Subscript a b pos) (b2 gIdx fa fb) :=
  PE.weak (pe_ix ix_seq ha hb hs) fun σ H Q h => top_f rul_idx h
theorem fe_dix (hu : X.A.units + 65 < cLine) (ha : WE X a fa) (hb : WE X b fb) (hs : NoSl b := by exact fun _ _ => rfl) : FE X (.Subscript a b pos) (b2 gDix fa fb) :=
  PE.weak (pe_dget (by omega) ha hb hs) fun σ H Q ⟨ρ, d, er, hf, q⟩ => by
    obtain ⟨x, y, h1, h2, h3⟩ := b2_some hf
    refine ⟨ρ, x, er, h1, fun v H1 s1 r1 => ⟨ρ, y, er.same s1, h2, fun u H2 s2 r2 => ?_⟩⟩
    cases x <;> simp only [gDix, reduceCtorEq] at h3
    obtain ⟨k, h4, h5⟩ := Option.bind_eq_some_iff.mp h3
    have r1' := (r1.same s2)
    have r1'' : RepF X.K H2 (.dic _) v := r1'
    simp only [RepF] at r1''
    obtain ⟨ad, ws, o, rfl, ha, rk⟩ := r1''
    obtain ⟨w', h6, h7⟩ := lookK_rep rk h5
    exact ⟨ad, w', rfl, .inl ⟨ws, k, .inr ⟨o, ha⟩, keyD_rep r2 h4, h6.symm⟩, q _ H2 (s1.trans s2) h7⟩

/-! ### slices -/
def cutD {α : Type} (xs : List α) (lo hi : Option Int) : List α := (xs.drop (HT.sIx xs.length 0 lo)).take (HT.sIx xs.length xs.length hi - HT.sIx xs.length 0 lo)
theorem cut_rep {K : PySem.W.Frag} {H : Hp} {ds : List D} {vs : List V} (r : RepL K H ds vs) (lo hi : Option Int) : RepL K H (cutD ds lo hi) (cutV vs lo hi) := by
  unfold cutD cutV
  rw [r.length]
  exact (r.drop _).take _
theorem cut_whole {ds : List D} {lo hi : Option Int} (h : HT.sIx ds.length 0 lo = 0 ∧ HT.sIx ds.length ds.length hi = ds.length) : cutD ds lo hi = ds := by
  unfold cutD
  rw [h.1, h.2]
  simp
/-- a part of a slice -/
def OE (X : Cx) (e : Option Expr) (f : Rho → Option (Option Int)) : Prop := PO X e (fun σ H Q => ∃ ρ o, ER X.K H σ ρ ∧ f ρ = some o ∧ ∀ H', Same H H' → Q o H')
def oNone : Rho → Option (Option Int) := fun _ => some none
def oSome (f : Rho → Option D) : Rho → Option (Option Int) := fun ρ => (f ρ).bind fun d => match d with
  | .int i => some (some i)
  | _ => none
theorem PO.weak {e : Option Expr} {t t' : TO} (h : PO X e t) (k : ∀ σ H Q, t' σ H Q → t σ H Q) : PO X e t' := ⟨fun pins s σ H Q I q => h.run pins s σ H Q I (k σ H Q q)⟩
theorem oe_none : OE X none oNone := PO.weak po_none fun σ H Q ⟨ρ, o, er, hf, q⟩ => by cases hf; exact q H (Same.refl H)
theorem oe_some (h : WE X e f) : OE X (some e) (oSome f) := PO.weak (po_some h) fun σ H Q ⟨ρ, o, er, hf, q⟩ => by
  obtain ⟨d, h1, h2⟩ := Option.bind_eq_some_iff.mp hf
  refine ⟨ρ, d, er, h1, fun v H1 s1 r1 => ?_⟩
  cases d <;> simp only [reduceCtorEq] at h2
  cases h2
  exact ⟨_, repW_int r1, q H1 s1⟩
def gSl : D → Option Int → Option Int → Option D
  | .lst xs, lo, hi => some (.opn (cutD xs lo hi))
  | .tup xs, lo, hi => some (.tup (cutD xs lo hi))
  | .str z, lo, hi => if small z.length then some (.str (cutS z lo hi)) else none
  | _, _, _ => none
def fSl (fa : Rho → Option D) (fl fh : Rho → Option (Option Int)) : Rho → Option D := fun ρ => (fa ρ).bind fun x => (fl ρ).bind fun l => (fh ρ).bind fun h => gSl x l h
theorem sl_3 : SlR X (fun x lo hi H Q => rSlL X.K x lo hi H Q ∨ (rSlA X.K x lo hi H Q ∨ rSlS x lo hi H Q)) := sl_list.or (sl_tupA.or sl_str)
theorem me_sl {lo hi : Option Expr} {fl fh : Rho → Option (Option Int)} {p2 : Pos} (ha : WE X a fa) (hl : OE X lo fl) (hh : OE X hi fh) : ME X (.Subscript a (.Slice lo hi none p2) pos) (fSl fa fl fh) :=
  PE.weak (pe_slice sl_3 ha hl hh) fun σ H Q ⟨ρ, d, er, hf, q⟩ => by
    obtain ⟨x, h1, hf1⟩ := Option.bind_eq_some_iff.mp hf
    obtain ⟨l, h2, hf2⟩ := Option.bind_eq_some_iff.mp hf1
    obtain ⟨h, h3, h4⟩ := Option.bind_eq_some_iff.mp hf2
    refine ⟨ρ, x, er, h1, fun v H1 s1 r1 => ⟨ρ, l, er.same s1, h2, fun H2 s2 => ⟨ρ, h, er.same (s1.trans s2), h3, fun H3 s3 => ?_⟩⟩⟩
    have s13 := (s1.trans s2).trans s3
    have r3 := r1.same (s2.trans s3)
    cases x <;> simp only [gSl, reduceCtorEq] at h4
    · split at h4 <;> cases h4
      rename_i hs
      exact .inr (.inr ⟨_, repW_str r3, small_le hs, q _ H3 s13 (RepM.of repF_str)⟩)
    · cases h4
      obtain ⟨ad, vs, rfl, hA, ra⟩ := repW_tup r3
      refine .inr (.inl ⟨ad, vs, rfl, hA, fun hw => ?_, fun _ p hp => ?_⟩)
      · rw [ra.length] at hw
        rw [cut_whole hw] at q
        exact q _ H3 s13 (RepM.of (repF_tup hA ra))
      · refine q _ _ (s13.trans (same_new hp)) (RepM.of (repF_tup (.of upd_same) ((cut_rep ra l h).ext (Ext.of (same_new hp)))))
    · cases h4
      obtain ⟨ad, vs, rfl, hA, ra⟩ := repW_lst r3
      refine .inl ⟨ad, vs, rfl, .inl hA, fun p hp => ?_⟩
      exact q _ _ (s13.trans (same_new hp)) ⟨p, _, rfl, s13.free hp, upd_same, (cut_rep ra l h).ext (Ext.of (same_new hp))⟩
theorem fe_sl {lo hi : Option Expr} {fl fh : Rho → Option (Option Int)} {p2 : Pos} (ha : WE X a fa) (hl : OE X lo fl) (hh : OE X hi fh) : FE X (.Subscript a (.Slice lo hi none p2) pos) (fz (fSl fa fl fh)) := fe_of_me (me_sl ha hl hh)

/-! ### built-ins of one argument -/
def u1 (g : D → Option D) (fa : Rho → Option D) : Rho → Option D := fun ρ => (fa ρ).bind g
def RulU (K : PySem.W.Frag) (g : D → Option D) (r : List V → Hp → VK → Prop) : Prop := ∀ (dx d : D) (x : V) (H : Hp) (Q : VK), RepW K H dx x → g dx = some d → (∀ v H', Same H H' → RepM K H H' d v → Q v H') → r [x] H Q
theorem tcb_m {g : D → Option D} {r : List V → Hp → VK → Prop} (hr : RulU X.K g r) {σ : L2.St} {H : Hp} {Q : VK} (h : tM X.K (u1 g fa) σ H Q) : tCB r (tCons (tW X.K fa) tNil) σ H Q := by
  obtain ⟨ρ, d, er, hf, q⟩ := h
  obtain ⟨x, h1, h2⟩ := Option.bind_eq_some_iff.mp hf
  exact ⟨ρ, x, er, h1, fun v H1 s1 r1 => hr x d v H1 Q r1 h2 fun v' H' s' r' => q v' H' (s1.trans s') (r'.back s1)⟩
theorem me_callB {x id : Str} {nm : String} {p : Pos} {g : D → Option D} {r : List V → Hp → VK → Prop} (hc : CallR X (.builtin nm) r) (hr : RulU X.K g r) (hg : Gl X x) (hm : X.mg x = none) (hv : bootBuiltins x = some (.builtin nm)) (ha : WE X a fa)
    (hn : x ≠ "__name__" := by decide) (hdb : (x == ("__debug__" : Str)) = false := by decide)
    (he : starEach [a] X.env = (false, eval a X.env) :: starEach [] X.env := by rfl) (hpl : (backTo pos (starEach [] X.env)).any (·.1) = false := by rfl) : ME X (.Call (.Name x p) [a] [] pos) (u1 g fa) :=
  PE.weak (pe_callB hc hg hm hv (pa_cons ha pa_nil he) hn hdb he hpl) fun σ H Q h => tcb_m hr h
theorem me_callTy {x id : Str} {nm : String} {p : Pos} {g : D → Option D} {r : List V → Hp → VK → Prop} (hc : CallR X (.type nm) r) (hr : RulU X.K g r) (hg : Gl X x) (hm : X.mg x = none) (hv : bootBuiltins x = some (.type nm)) (ha : WE X a fa)
    (hn : x ≠ "__name__" := by decide) (hdb : (x == ("__debug__" : Str)) = false := by decide)
    (he : starEach [a] X.env = (false, eval a X.env) :: starEach [] X.env := by rfl) (hpl : (backTo pos (starEach [] X.env)).any (·.1) = false := by rfl) : ME X (.Call (.Name x p) [a] [] pos) (u1 g fa) :=
  PE.weak (pe_callTy hc hg hm hv (pa_cons ha pa_nil he) hn hdb he hpl) fun σ H Q h => tcb_m hr h
/-- an answer that is never a new list -/
theorem fe_of_plain {g : D → Option D} (hp : ∀ x d, g x = some d → ∀ ds, d ≠ .opn ds) (h : ME X e (u1 g fa)) : FE X e (u1 g fa) := by
  refine (fe_of_me h).eq ?_
  funext ρ
  unfold fz u1
  cases fa ρ with
  | none => rfl
  | some x =>
    show g x = (g x).map frzD
    cases hx : g x with
    | none => rfl
    | some d =>
      have := hp x d hx
      cases d with
      | opn ds => exact absurd rfl (this ds)
      | _ => rfl
def gLen : D → Option D
  | .str z => if small z.length then some (.int z.length) else none
  | .tup xs => some (.int xs.length)
  | .lst xs => some (.int xs.length)
  | .scr xs => some (.int xs.length)
  | _ => none
theorem rul_len {K : PySem.W.Frag} : RulU K gLen (fun xs H Q => ∃ x n, xs = [x] ∧ LenV K x H n ∧ Q (.int n) H) := fun dx d x H Q r h q => by
  cases dx <;> simp only [gLen, reduceCtorEq] at h
  · split at h <;> cases h
    rename_i hs
    have := repW_str r
    subst this
    exact ⟨_, _, rfl, ⟨small_le hs, rfl⟩, q _ H (Same.refl H) (RepM.of repF_int)⟩
  · cases h
    obtain ⟨a, vs, rfl, ha, ra⟩ := repW_tup r
    exact ⟨_, _, rfl, .inr ⟨vs, ha, rfl⟩, q _ H (Same.refl H) (RepM.of (by rw [ra.length]; exact repF_int))⟩
  · cases h
    obtain ⟨a, vs, rfl, ha, ra⟩ := repW_lst r
    exact ⟨_, _, rfl, .inl ⟨vs, .inl ha, rfl⟩, q _ H (Same.refl H) (RepM.of (by rw [ra.length]; exact repF_int))⟩
  · cases h
    obtain ⟨a, rfl, ha⟩ := repW_scr r
    exact ⟨_, _, rfl, .inl ⟨_, ha.seq, rfl⟩, q _ H (Same.refl H) (RepM.of (by rw [List.length_map]; exact repF_int))⟩
theorem fe_len {p : Pos} (hg : Gl X "len") (hm : X.mg "len" = none) (ha : WE X a fa) (he : starEach [a] X.env = (false, eval a X.env) :: starEach [] X.env := by rfl) (hpl : (backTo pos (starEach [] X.env)).any (·.1) = false := by rfl) :
    FE X (.Call (.Name "len" p) [a] [] pos) (u1 gLen fa) :=
  fe_of_plain (fun x d h ds => by cases x <;> simp only [gLen, reduceCtorEq] at h <;> (try split at h) <;> cases h <;> exact fun z => nomatch z)
    (me_callB (id := "len") call_len rul_len hg hm PySem.boot_len ha (by decide) (by decide) he hpl)
noncomputable def gStr : D → Option D
  | .int i => if cdec (i.natAbs.log2 < 1920) = true then some (.str (toString i)) else none
  | _ => none
theorem rul_str {K : PySem.W.Frag} : RulU K gStr (fun xs H Q => ∃ i, xs = [.int i] ∧ i.natAbs.log2 < 1920 ∧ Q (.str (toString i)) H) := fun dx d x H Q r h q => by
  cases dx <;> simp only [gStr, reduceCtorEq] at h
  split at h <;> cases h
  rename_i hs
  have := repW_int r
  subst this
  exact ⟨_, rfl, cdec_iff.mp hs, q _ H (Same.refl H) (RepM.of repF_str)⟩
theorem fe_str1 {p : Pos} (hg : Gl X "str") (hm : X.mg "str" = none) (ha : WE X a fa) (he : starEach [a] X.env = (false, eval a X.env) :: starEach [] X.env := by rfl) (hpl : (backTo pos (starEach [] X.env)).any (·.1) = false := by rfl) :
    FE X (.Call (.Name "str" p) [a] [] pos) (u1 gStr fa) :=
  fe_of_plain (fun x d h ds => by cases x <;> simp only [gStr, reduceCtorEq] at h <;> (try split at h) <;> cases h <;> exact fun z => nomatch z)
    (me_callTy (id := "str") call_str_int rul_str hg hm (by decide +kernel) ha (by decide) (by decide) he hpl)
def gInt : D → Option D
  | .int i => some (.int i)
  | .bl b => some (.int (if b then 1 else 0))
  | _ => none
theorem rul_int {K : PySem.W.Frag} : RulU K gInt (fun xs H Q => (∃ i, xs = [.int i] ∧ Q (.int i) H) ∨ ∃ k, xs = [.bl k] ∧ Q (.int (if k then 1 else 0)) H) := fun dx d x H Q r h q => by
  cases dx <;> simp only [gInt, reduceCtorEq] at h
  · cases h
    have := repW_bl r
    subst this
    exact .inr ⟨_, rfl, q _ H (Same.refl H) (RepM.of repF_int)⟩
  · cases h
    have := repW_int r
    subst this
    exact .inl ⟨_, rfl, q _ H (Same.refl H) (RepM.of repF_int)⟩
theorem fe_int1 {p : Pos} (hg : Gl X "int") (hm : X.mg "int" = none) (ha : WE X a fa) (he : starEach [a] X.env = (false, eval a X.env) :: starEach [] X.env := by rfl) (hpl : (backTo pos (starEach [] X.env)).any (·.1) = false := by rfl) :
    FE X (.Call (.Name "int" p) [a] [] pos) (u1 gInt fa) :=
  fe_of_plain (fun x d h ds => by cases x <;> simp only [gInt, reduceCtorEq] at h <;> cases h <;> exact fun z => nomatch z)
    (me_callTy (id := "int") call_int1 rul_int hg hm (by decide +kernel) ha (by decide) (by decide) he hpl)
/-- list(x), tuple(x) -/
def gList : D → Option D
  | .tup xs => some (.opn xs)
  | .lst xs => some (.opn xs)
  | _ => none
theorem rul_list {K : PySem.W.Frag} : RulU K gList (fun xs H Q => ∃ p ys, xs = [.ref p] ∧ (SqL K H p ys ∨ SqT K H p ys) ∧ ∀ l, H l = none → Q (.ref l) (upd H l (.lst ys))) := fun dx d x H Q r h q => by
  cases dx <;> simp only [gList, reduceCtorEq] at h <;> cases h
  · obtain ⟨a, vs, rfl, ha, ra⟩ := repW_tup r
    exact ⟨a, vs, rfl, .inr ha, fun l hl => q _ _ (same_new hl) ⟨l, vs, rfl, hl, upd_same, ra.ext (Ext.of (same_new hl))⟩⟩
  · obtain ⟨a, vs, rfl, ha, ra⟩ := repW_lst r
    exact ⟨a, vs, rfl, .inl (.inl ha), fun l hl => q _ _ (same_new hl) ⟨l, vs, rfl, hl, upd_same, ra.ext (Ext.of (same_new hl))⟩⟩
theorem me_list {p : Pos} (hg : Gl X "list") (hm : X.mg "list" = none) (ha : WE X a fa) (he : starEach [a] X.env = (false, eval a X.env) :: starEach [] X.env := by rfl) (hpl : (backTo pos (starEach [] X.env)).any (·.1) = false := by rfl) :
    ME X (.Call (.Name "list" p) [a] [] pos) (u1 gList fa) := me_callTy (id := "list") call_list_of rul_list hg hm (by decide +kernel) ha (by decide) (by decide) he hpl
def gTuple : D → Option D
  | .tup xs => some (.tup xs)
  | .lst xs => some (.tup xs)
  | _ => none
theorem rul_tuple {K : PySem.W.Frag} : RulU K gTuple (fun xs H Q => ∃ p ys, xs = [.ref p] ∧ ((SqL K H p ys ∧ ∀ l, H l = none → Q (.ref l) (upd H l (.tup ys))) ∨ (SqT K H p ys ∧ Q (.ref p) H))) := fun dx d x H Q r h q => by
  cases dx <;> simp only [gTuple, reduceCtorEq] at h <;> cases h
  · obtain ⟨a, vs, rfl, ha, ra⟩ := repW_tup r
    exact ⟨a, vs, rfl, .inr ⟨ha, q _ H (Same.refl H) (RepM.of (repF_tup ha ra))⟩⟩
  · obtain ⟨a, vs, rfl, ha, ra⟩ := repW_lst r
    exact ⟨a, vs, rfl, .inl ⟨.inl ha, fun l hl => q _ _ (same_new hl) (RepM.of (repF_tup (.of upd_same) (ra.ext (Ext.of (same_new hl)))))⟩⟩
theorem fe_tuple {p : Pos} (hg : Gl X "tuple") (hm : X.mg "tuple" = none) (ha : WE X a fa) (he : starEach [a] X.env = (false, eval a X.env) :: starEach [] X.env := by rfl) (hpl : (backTo pos (starEach [] X.env)).any (·.1) = false := by rfl) :
    FE X (.Call (.Name "tuple" p) [a] [] pos) (u1 gTuple fa) :=
  fe_of_plain (fun x d h ds => by cases x <;> simp only [gTuple, reduceCtorEq] at h <;> cases h <;> exact fun z => nomatch z)
    (me_callTy (id := "tuple") call_tuple_of rul_tuple hg hm (by decide +kernel) ha (by decide) (by decide) he hpl)
/-- min, max of two ints -/
def gMax : List D → Option D
  | [.int i, .int j] => some (.int (if j > i then j else i))
  | _ => none
def gMin : List D → Option D
  | [.int i, .int j] => some (.int (if j < i then j else i))
  | _ => none
def fArgs (g : List D → Option D) (fs : Rho → Option (List D)) : Rho → Option D := fun ρ => (fs ρ).bind g
theorem repL_two {K : PySem.W.Frag} {H : Hp} {i j : Int} {vs : List V} (r : RepL K H [.int i, .int j] vs) : vs = [.int i, .int j] := by
  simp only [RepL, RepF] at r
  obtain ⟨v, r', rfl, rfl, w, r'', rfl, rfl, rfl⟩ := r
  rfl
theorem fe_max2 {fs : Rho → Option (List D)} {p : Pos} (hcalm : X.calm = true) (hg : Gl X "max") (hm : X.mg "max" = none) (ha : AE X [a, b] fs)
    (he : starEach [a, b] X.env = (false, eval a X.env) :: starEach [b] X.env := by rfl) (hpl : (backTo pos (starEach [b] X.env)).any (·.1) = false := by rfl) : FE X (.Call (.Name "max" p) [a, b] [] pos) (fArgs gMax fs) :=
  PE.weak (pe_callB (call_max2 hcalm) hg hm (by decide +kernel) ha (by decide) (by decide) he hpl) fun σ H Q ⟨ρ, d, er, hf, q⟩ => by
    obtain ⟨ds, h1, h2⟩ := Option.bind_eq_some_iff.mp hf
    refine ⟨ρ, ds, er, h1, fun vs H1 s1 r1 => ?_⟩
    unfold gMax at h2
    split at h2 <;> cases h2
    have := repL_two r1
    subst this
    exact ⟨_, _, rfl, q _ H1 s1 repF_int⟩
theorem fe_min2 {fs : Rho → Option (List D)} {p : Pos} (hcalm : X.calm = true) (hg : Gl X "min") (hm : X.mg "min" = none) (ha : AE X [a, b] fs)
    (he : starEach [a, b] X.env = (false, eval a X.env) :: starEach [b] X.env := by rfl) (hpl : (backTo pos (starEach [b] X.env)).any (·.1) = false := by rfl) : FE X (.Call (.Name "min" p) [a, b] [] pos) (fArgs gMin fs) :=
  PE.weak (pe_callB (call_min2 hcalm) hg hm (by decide +kernel) ha (by decide) (by decide) he hpl) fun σ H Q ⟨ρ, d, er, hf, q⟩ => by
    obtain ⟨ds, h1, h2⟩ := Option.bind_eq_some_iff.mp hf
    refine ⟨ρ, ds, er, h1, fun vs H1 s1 r1 => ?_⟩
    unfold gMin at h2
    split at h2 <;> cases h2
    have := repL_two r1
    subst this
    exact ⟨_, _, rfl, q _ H1 s1 repF_int⟩

/-! ### x.index(y) -/
def idxD (x : D) : List D → Option Nat
  | [] => none
  | y :: ys => if eqD y x then some 0 else (idxD x ys).map (· + 1)
def gIndex : D → D → Option D
  | .lst xs, y => if okD DEEP (.lst xs) && okD DEEP y then (idxD y xs).map fun j => .int (j : Nat) else none
  | _, _ => none
theorem toPyL_get : ∀ {ds : List D} {j : Nat}, (toPyL ds)[j]? = (ds[j]?).map toPy
  | [], j => by simp [toPyL]
  | d :: ds, 0 => by simp [toPyL]
  | d :: ds, j + 1 => by simp [toPyL, toPyL_get (ds := ds) (j := j)]
theorem okL_get : ∀ {n : Nat} {ds : List D} {j : Nat} {d : D}, okL n ds = true → ds[j]? = some d → okD n d = true
  | n, [], j, d, _, h => by simp at h
  | n, x :: ds, 0, d, hk, h => by
    simp only [okL, Bool.and_eq_true] at hk
    simp at h; subst h; exact hk.1
  | n, x :: ds, j + 1, d, hk, h => by
    simp only [okL, Bool.and_eq_true] at hk
    exact okL_get hk.2 (by simpa using h)
theorem idxD_some {x : D} : ∀ {ds : List D} {j : Nat}, idxD x ds = some j → (∃ z, ds[j]? = some z ∧ eqD z x = true) ∧ ∀ (m : Nat) (z : D), m < j → ds[m]? = some z → eqD z x = false
  | [], j, h => by simp [idxD] at h
  | y :: ys, j, h => by
    simp only [idxD] at h
    split at h
    · rename_i hy
      cases h
      exact ⟨⟨y, rfl, hy⟩, fun m z hm => absurd hm (Nat.not_lt_zero _)⟩
    · rename_i hy
      obtain ⟨k, hk, rfl⟩ := Option.map_eq_some_iff.mp h
      obtain ⟨⟨z, h1, h2⟩, h3⟩ := idxD_some hk
      refine ⟨⟨z, by simpa using h1, h2⟩, fun m w hm hw => ?_⟩
      cases m with
      | zero => simp at hw; subst hw; simpa using hy
      | succ m => exact h3 m w (by omega) (by simpa using hw)
theorem fe_index {apos cpos : Pos} (hu : X.A.units + 65 < cLine) (ha : WE X a fa) (hb : FE X b fb) (hbase : attributeBase a "index" X.env (eval a X.env) = eval a X.env := by rfl)
    (hfew : ((backTo cpos (starEach [b] X.env)).all (fun x => !x.1) && (backToKw cpos (keywordEach [] X.env)).all (fun x => x.1.isSome)
      && decide ([b].length + ([] : List Keyword).length + (if ([] : List Keyword).isEmpty then 0 else 1) < 30)) = true := by rfl)
    (hline : (apos.endLine == cpos.line) = true := by rfl) (hs : starEach [b] X.env = (false, eval b X.env) :: starEach [] X.env := by rfl) (hplain : (backTo cpos (starEach [] X.env)).any (·.1) = false := by rfl) :
    FE X (.Call (.Attribute a "index" apos) [b] [] cpos) (b2 gIndex fa fb) :=
  PE.weak (pe_bm PySem.F.plainAttrs_list PySem.F.slot_list_index PySem.F.type_list_index (mt_indexD hu) ha (pa_cons hb pa_nil hs) hbase hfew hline hs hplain) fun σ H Q ⟨ρ, d, er, hf, q⟩ => by
    obtain ⟨x, y, h1, h2, h3⟩ := b2_some hf
    refine ⟨ρ, x, er, h1, fun v H1 s1 r1 => ?_⟩
    cases x <;> simp only [gIndex, reduceCtorEq] at h3
    rename_i xs
    split at h3
    · rename_i hk
      rw [Bool.and_eq_true] at hk
      obtain ⟨j, h4, rfl⟩ := Option.map_eq_some_iff.mp h3
      obtain ⟨ad, vs, rfl, hA, ra⟩ := repW_lst r1
      refine ⟨.inl ⟨rfl, _, .inl hA⟩, ρ, y, er.same s1, h2, fun u H2 s2 r2 => ?_⟩
      obtain ⟨⟨z, h5, h6⟩, h7⟩ := idxD_some h4
      have hl : okL 11 xs = true := by simpa only [okD] using hk.1
      have d1 := dpW_of hk.1 (r1.same s2)
      have sh := ok_shaped (by decide) hk.1
      simp only [toPy] at d1 sh
      refine ⟨ad, u, toPy y, toPyL xs, j, toPy z, rfl, rfl, d1, dp_of _ _ _ hk.2 r2, sh, ok_shaped (by decide) hk.2, ?_, ?_, fun m z' hm hz => ?_, q _ H2 (s1.trans s2) repF_int⟩
      · rw [toPyL_get, h5]; rfl
      · rw [eqv_toPy _ _ _ _ (okL_get hl h5) hk.2]; exact h6
      · rw [toPyL_get] at hz
        obtain ⟨z0, h8, rfl⟩ := Option.map_eq_some_iff.mp hz
        rw [eqv_toPy _ _ _ _ (okL_get hl h8) hk.2]
        exact h7 m z0 hm h8
    · cases h3
end
end PL
/-! ### part PLZ -/
namespace PL
open PySem PySem.Spec PyProof.Rows L2

/-! ### zip of lists and tuples, in any mix (true: a tuple) -/
def sItr (k : Bool) (h : Heap) (it a : Addr) (i : Nat) : Prop := if k = true then h.IsTupleIter it a i else h.IsListIter it a i
def sSrc (K : PySem.W.Frag) (k : Bool) (H : Hp) (a : Addr) (xs : List V) : Prop := if k = true then SqT K H a xs else SqL K H a xs
def sObj (k : Bool) (h : Heap) (a : Addr) (items : Array Value) : Prop := if k = true then h.IsTuple a items else h.IsList a items
def sIt0 (k : Bool) (a : Addr) : Obj := if k = true then { cls := .type "tuple_iterator", data := .fields #[.ref a, .int 0 0] } else { cls := .type "list_iterator", data := .fields #[.ref a, .int 0 0] }
theorem sItr.at_ {k : Bool} {h h' : Heap} {it a : Addr} {i : Nat} (x : sItr k h it a i) (hk : ∀ o, h.get? it = some o → h'.get? it = some o) : sItr k h' it a i := by
  cases k with
  | true => exact Heap.IsTupleIter.at x hk
  | false => exact Heap.IsListIter.at x hk
theorem sItr.obj {k : Bool} {h : Heap} {it a : Addr} {i : Nat} (x : sItr k h it a i) : ∃ o, h.get? it = some o ∧ ∀ v, o.data ≠ .cell v := by
  cases k with
  | true =>
    obtain ⟨o, e, _, d⟩ := (show h.IsTupleIter it a i from x)
    exact ⟨o, e, fun v q => by rw [d] at q; cases q⟩
  | false =>
    obtain ⟨o, e, _, d⟩ := (show h.IsListIter it a i from x)
    exact ⟨o, e, fun v q => by rw [d] at q; cases q⟩
theorem sObj.at_ {k : Bool} {h h' : Heap} {a : Addr} {items : Array Value} (x : sObj k h a items) (hk : ∀ o, h.get? a = some o → h'.get? a = some o) : sObj k h' a items := by
  cases k with
  | true => exact Heap.IsTuple.at x hk
  | false => exact Heap.IsList.at x hk
theorem sObj.lt {k : Bool} {h : Heap} {a : Addr} {items : Array Value} (x : sObj k h a items) : a < h.objs.size := by
  cases k with
  | true =>
    obtain ⟨o, e, _⟩ := (show h.IsTuple a items from x)
    exact Heap.lt_size e
  | false =>
    obtain ⟨o, e, _⟩ := (show h.IsList a items from x)
    exact Heap.lt_size e
theorem sDraws {prog : Program} {w : World} {A : Around} (k : Bool) (hh : A.handled = none) (it a : Addr) (hne : a ≠ it) (items : Array Value) :
    Draws prog w A it [it, a] items.size (fun i v => items[i]? = some v) (fun i h => sItr k h it a i ∧ sObj k h a items) := by
  cases k with
  | true => exact Draws.tuple hh it a hne items
  | false => exact Draws.list hh it a hne items
theorem sBegins (k : Bool) (a : Addr) (items : Array Value) : Begins (.ref a) (sIt0 k a) fun h => sObj k h a items := by
  cases k with
  | true => exact begins_tuple a items
  | false => exact begins_list a items
theorem sItr0 {k : Bool} {h : Heap} {it a : Addr} (e : h.get? it = some (sIt0 k a)) : sItr k h it a 0 := by
  cases k with
  | true => exact ⟨_, e, rfl, rfl⟩
  | false => exact ⟨_, e, rfl, rfl⟩
section
variable {X : Cx} {pins : List (Addr × Obj)} {σ : L2.St} {H : Hp} {s : Shared} {a : Addr} {xs ys : List V}
theorem inv_src {k : Bool} (I : Inv X pins σ H s) (h : sSrc X.K k H a xs) : ∃ its : List Value, Vals xs its ∧ sObj k s.heap a its.toArray := by
  cases k with
  | true =>
    obtain ⟨its, r, p, _⟩ := I.tuple h
    exact ⟨its, r, (show s.heap.IsTuple a its.toArray from p)⟩
  | false =>
    obtain ⟨its, r, p, _⟩ := I.list h
    exact ⟨its, r, p.isList⟩
theorem inv_srcinj {k : Bool} (I : Inv X pins σ H s) (h : sSrc X.K k H a xs) (h' : sSrc X.K k H a ys) : xs = ys := by
  cases k with
  | true => exact I.tuple_inj h h'
  | false => exact I.list_inj h h'
end
/-- the two as they stand at each turn -/
def ItzM (K : PySem.W.Frag) (k1 k2 : Bool) (a b : Addr) : It :=
  ⟨fun i H => ∃ (xs ys : List V) (x y : V), sSrc K k1 H a xs ∧ sSrc K k2 H b ys ∧ xs[i]? = some x ∧ ys[i]? = some y,
    fun i H v H' => ∃ T x y, v = .ref T ∧ H T = none ∧ H' = upd H T (.tup [x, y]) ∧ (∀ xs, sSrc K k1 H a xs → xs[i]? = some x) ∧ ∀ ys, sSrc K k2 H b ys → ys[i]? = some y,
    fun i H => ∃ xs ys : List V, sSrc K k1 H a xs ∧ sSrc K k2 H b ys ∧ i = min xs.length ys.length⟩
theorem turn_zipM {P : Program} {w : World} {K : PySem.W.Frag} {elts : List Expr} {kk : Nat} {tpos : Pos} {k1 k2 : Bool} {a b z TI TO i1 i2 : Addr} (D : ZipApart z TI TO i1 i2 a b) :
    Turn P w K (.Tuple elts kk tpos) (ItzM K k1 k2 a b) [z, TI, TO, i1, i2] z (fun i h => IsZip h z TI TO .none ∧ IsPair h TI (.ref i1) (.ref i2) ∧ (∃ x y, IsPair h TO x y) ∧ sItr k1 h i1 a i ∧ sItr k2 h i2 b i) where
  mem := by simp
  obj := fun i h st c hc => by
    obtain ⟨hz, hTI, ⟨x, y, hTO⟩, h1, h2⟩ := st
    have e' : c = z ∨ c = TI ∨ c = TO ∨ c = i1 ∨ c = i2 := by simpa using hc
    rcases e' with q | q | q | q | q
    · rw [q]; exact ⟨_, hz, fun v q => nomatch q⟩
    · rw [q]; exact ⟨_, hTI, fun v q => nomatch q⟩
    · rw [q]; exact ⟨_, hTO, fun v q => nomatch q⟩
    · rw [q]; exact h1.obj
    · rw [q]; exact h2.obj
  keep := fun i h h' st k => by
    obtain ⟨hz, hTI, ⟨x, y, hTO⟩, h1, h2⟩ := st
    exact ⟨k z (by simp) _ hz, k TI (by simp) _ hTI, ⟨x, y, k TO (by simp) _ hTO⟩, h1.at_ fun o q => k i1 (by simp) o q, h2.at_ fun o q => k i2 (by simp) o q⟩
  item := by
    intro X hP hw hK hc i pins s σ H E I hf st hg
    subst hP hw hK
    obtain ⟨hz, hTI, ⟨x0, y0, hTO⟩, h1, h2⟩ := st
    obtain ⟨xs, ys, x, y, hqx, hqy, hx, hy⟩ := hg
    obtain ⟨its, rv, p⟩ := inv_src I hqx
    obtain ⟨its2, rv2, p2⟩ := inv_src I hqy
    obtain ⟨u, hu, ru⟩ := rv.get hx
    obtain ⟨u2, hu2, ru2⟩ := rv2.get hy
    have hzl : z < s.heap.objs.size := Heap.lt_size hz
    have hi1 : i < its.toArray.size := by
      have := (List.getElem?_eq_some_iff.mp hu).1
      simpa using this
    have hi2 : i < its2.toArray.size := by
      have := (List.getElem?_eq_some_iff.mp hu2).1
      simpa using this
    have S : ZipSep2 z TI TO i1 i2 [i1, a] [i2, b] := by
      refine ⟨D.TIz, D.TOz, D.TITO, D.TIi1, by simp, ?_, ?_, D.TIi2, by simp, ?_, ?_, ?_, ?_⟩
      · simp only [List.mem_cons, List.not_mem_nil, or_false, not_or]; exact ⟨Ne.symm D.i1z, Ne.symm D.l1z⟩
      · simp only [List.mem_cons, List.not_mem_nil, or_false, not_or]; exact ⟨D.TOi1, Ne.symm D.l1TO⟩
      · simp only [List.mem_cons, List.not_mem_nil, or_false, not_or]; exact ⟨Ne.symm D.i2z, Ne.symm D.l2z⟩
      · simp only [List.mem_cons, List.not_mem_nil, or_false, not_or]; exact ⟨D.TOi2, Ne.symm D.l2TO⟩
      · simp only [List.mem_cons, List.not_mem_nil, or_false, not_or]; exact ⟨D.i12, Ne.symm D.l2i1⟩
      · simp only [List.mem_cons, List.not_mem_nil, or_false, not_or]; exact ⟨Ne.symm D.i12, Ne.symm D.l1i2⟩
    have hh : X.A.in1.handled = none := I.ok.hd hc
    have D1 := sDraws (prog := X.prog) (w := X.w) (A := X.A.in1) k1 hh i1 a D.l1i1 its.toArray
    have D2 := sDraws (prog := X.prog) (w := X.w) (A := X.A.in1) k2 hh i2 b D.l2i2 its2.toArray
    have hT : s.TypeIs (.ref z) "zip" := ⟨_, hz, rfl⟩
    unfold pyNext
    refine wpAny_bind (wpAny_attempt (wpAny_callSpecial?_slot (name := Str.ofString "__next__") hT F.slot_zip_next
      (wpAny_call_entry F.slot_zip_next hT F.entry_zip_next
        (zipD2_next_item S D1 D2 hz hTI hTO ⟨h1, p⟩ ⟨h2, p2⟩ hi1 hi2 fun v1 v2 h' tk q1 q2 z' TO' s1' s2' hT hsz hk => wpAny_pure ?_) (F.args_zip_next_1 _))))
    have ev1 : v1 = u := by simpa [hu] using q1.symm
    have ev2 : v2 = u2 := by simpa [hu2] using q2.symm
    subst ev1 ev2
    refine ⟨_, rfl, wpAny_letOwnedTupleGo_zip (s := { s with heap := h', toks := tk }) z' fun h'' z'' sb => ?_⟩
    have hT2 : h''.get? s.heap.objs.size = some { cls := .type "tuple", data := .seq #[v1, v2] } := (sb.2 _ (Nat.ne_of_gt hzl)).trans hT
    have new : ObjOk X.prog X.w (upd H s.heap.objs.size (.tup [x, y])) h'' s.heap.objs.size (.tup [x, y]) :=
      ⟨by show 2 ≤ sizeLine; decide, [v1, v2], .cons ru (.cons ru2 .nil), ⟨_, hT2, rfl, _, rfl⟩⟩
    have I1 : Inv X pins σ (upd H s.heap.objs.size (.tup [x, y])) { s with heap := h'', toks := tk } :=
      I.turnedNew (t' := tk) (ch := [z, TI, TO, i1, i2]) (fun c o hb q => (sb.2 c (fun q' => hb (by simp [q']))).trans (hk c o (fun q' => hb (by simp [q'])) (fun q' => hb (by simp [q'])) (fun q' => hb (by simp [q'])) (fun q' => hb (by simp [q'])) q)) hf (Nat.le_refl _) new
    refine ⟨.ref s.heap.objs.size, _, I1, rfl, ⟨_, x, y, rfl, I.hok.fresh (Nat.le_refl _), rfl, fun l hl => by rw [inv_srcinj I hl hqx]; exact hx, fun l hl => by rw [inv_srcinj I hl hqy]; exact hy⟩, ⟨z'', ?_, ⟨v1, v2, ?_⟩, ?_, ?_⟩, fun c hcm => ?_⟩
    · exact (sb.2 _ D.TIz).trans (hk _ _ D.TIz D.TITO D.TIi1 D.TIi2 hTI)
    · exact (sb.2 _ D.TOz).trans TO'
    · exact s1'.1.at_ fun o q => (sb.2 _ D.i1z).trans q
    · exact s2'.1.at_ fun o q => (sb.2 _ D.i2z).trans q
    · have hlt : c < s.heap.objs.size := by
        have e' : c = z ∨ c = TI ∨ c = TO ∨ c = i1 ∨ c = i2 := by simpa using hcm
        rcases e' with q | q | q | q | q
        · rw [q]; exact hzl
        · rw [q]; exact Heap.lt_size hTI
        · rw [q]; exact Heap.lt_size hTO
        · rw [q]; obtain ⟨_, e1, _⟩ := h1.obj; exact Heap.lt_size e1
        · rw [q]; obtain ⟨_, e1, _⟩ := h2.obj; exact Heap.lt_size e1
      rw [upd_ne (Nat.ne_of_lt hlt)]
      exact (hf c hcm).1
  done := by
    intro X hP hw hK hc i pins s σ H E I hf st hg
    subst hP hw hK
    obtain ⟨hz, hTI, ⟨x0, y0, hTO⟩, h1, h2⟩ := st
    obtain ⟨xs, ys, hqx, hqy, hend⟩ := hg
    obtain ⟨its, rv, p⟩ := inv_src I hqx
    obtain ⟨its2, rv2, p2⟩ := inv_src I hqy
    have l1 := rv.length
    have l2 := rv2.length
    have S : ZipSep2 z TI TO i1 i2 [i1, a] [i2, b] := by
      refine ⟨D.TIz, D.TOz, D.TITO, D.TIi1, by simp, ?_, ?_, D.TIi2, by simp, ?_, ?_, ?_, ?_⟩
      · simp only [List.mem_cons, List.not_mem_nil, or_false, not_or]; exact ⟨Ne.symm D.i1z, Ne.symm D.l1z⟩
      · simp only [List.mem_cons, List.not_mem_nil, or_false, not_or]; exact ⟨D.TOi1, Ne.symm D.l1TO⟩
      · simp only [List.mem_cons, List.not_mem_nil, or_false, not_or]; exact ⟨Ne.symm D.i2z, Ne.symm D.l2z⟩
      · simp only [List.mem_cons, List.not_mem_nil, or_false, not_or]; exact ⟨D.TOi2, Ne.symm D.l2TO⟩
      · simp only [List.mem_cons, List.not_mem_nil, or_false, not_or]; exact ⟨D.i12, Ne.symm D.l2i1⟩
      · simp only [List.mem_cons, List.not_mem_nil, or_false, not_or]; exact ⟨Ne.symm D.i12, Ne.symm D.l1i2⟩
    have hh : X.A.in1.handled = none := I.ok.hd hc
    have D1 := sDraws (prog := X.prog) (w := X.w) (A := X.A.in1) k1 hh i1 a D.l1i1 its.toArray
    have D2 := sDraws (prog := X.prog) (w := X.w) (A := X.A.in1) k2 hh i2 b D.l2i2 its2.toArray
    have hT : s.TypeIs (.ref z) "zip" := ⟨_, hz, rfl⟩
    unfold pyNext
    refine wpAny_bind (wpAny_attempt (wpAny_callSpecial?_slot (name := Str.ofString "__next__") hT F.slot_zip_next
      (wpAny_call_entry F.slot_zip_next hT F.entry_zip_next
        (zipD2_next_end S D1 D2 hz hTI hTO ⟨h1, p⟩ ⟨h2, p2⟩ (by rw [List.size_toArray]; omega) (by rw [List.size_toArray]; omega) (by rw [List.size_toArray, List.size_toArray]; omega) fun h' tk e hk he => ?_) (F.args_zip_next_1 _))))
    obtain ⟨o, ho, hcl⟩ := he
    refine wpAny_bind (wpAny_isInstance (T := "StopIteration") (b := true) ⟨o, ho, hcl⟩ isSubtype_stop ?_)
    refine wpAny_pure ⟨rfl, I.turnedL (t' := tk) (ch := [z, TI, TO, i1, i2]) (fun c o hb q =>
      hk c o (fun q' => hb (by simp [q'])) (fun q' => hb (by simp [q'])) (fun q' => hb (by simp [q'])) (fun q' => hb (by simp [q'])) q) hf⟩
  self := fun A i s Q E st h => wpAny_pyIter_zip st.1 h
def iZipM (K : PySem.W.Frag) (ta : TA) : TI := fun σ H R => ta σ H fun vs H1 => ∃ a b xs ys k1 k2, vs = [.ref a, .ref b] ∧ sSrc K k1 H1 a xs ∧ sSrc K k2 H1 b ys ∧ R (ItzM K k1 k2 a b) H1
theorem pi_zipM {X : Cx} {e e2 : Expr} {ta : TA} {p pos tpos : Pos} {elts : List Expr} {kk : Nat} (hg : Gl X "zip") (hm : X.mg "zip" = none) (ha : PA X [e, e2] ta)
    (hs : starEach [e, e2] X.env = (false, eval e X.env) :: starEach [e2] X.env := by rfl) (hpl : (backTo pos (starEach [e2] X.env)).any (·.1) = false := by rfl) :
    PI X (.Tuple elts kk tpos) (.Call (.Name "zip" p) [e, e2] [] pos) (iZipM X.K ta) := by
  refine ⟨fun pins s σ H R I h => ?_⟩
  refine Call_ (ld_blt I hg hm PyProof.Rows.boot_zip (PyProof.Rows.callWith_type1 (thn (ha.run pos pins s σ H _ I h) fun us s1 ⟨vs, H1, I1, r1, q1⟩ => ?_) hs hpl))
  obtain ⟨a, b, xs, ys, k1, k2, ex, hqx, hqy, q⟩ := q1
  subst ex
  cases r1 with
  | cons r rr =>
    cases rr with
    | cons r' rr =>
      cases rr
      cases r
      cases r'
      obtain ⟨its, rv, p1⟩ := inv_src I1 hqx
      obtain ⟨its2, rv2, p2⟩ := inv_src I1 hqy
      refine zip_begins2 (sBegins k1 a its.toArray) (sBegins k2 b its2.toArray) p1 p2 fun h' hz hTI hTO h1 h2 hsz hk => wpAny_pyIter_zip hz ?_
      have I2 : Inv X pins σ H1 { s1 with heap := h' } := I1.kept (t' := s1.toks) hk
      refine ⟨s1.heap.objs.size + 4, [s1.heap.objs.size + 4, s1.heap.objs.size + 2, s1.heap.objs.size + 3, s1.heap.objs.size, s1.heap.objs.size + 1], _, _, H1, rfl, I2, turn_zipM (PySem.W.ktu_apart s1.heap.objs.size a b p1.lt p2.lt), ⟨hz, hTI, ⟨_, _, hTO⟩, sItr0 h1, sItr0 h2⟩, fun c hcm => ?_, q⟩
      have e' : c = s1.heap.objs.size + 4 ∨ c = s1.heap.objs.size + 2 ∨ c = s1.heap.objs.size + 3 ∨ c = s1.heap.objs.size ∨ c = s1.heap.objs.size + 1 := by simpa using hcm
      have hle : s1.heap.objs.size ≤ c := by
        rcases e' with z | z | z | z | z
        · rw [z]; exact Nat.le_add_right _ _
        · rw [z]; exact Nat.le_add_right _ _
        · rw [z]; exact Nat.le_add_right _ _
        · rw [z]; exact Nat.le_refl _
        · rw [z]; exact Nat.le_add_right _ _
      exact I1.fpOk hle (I1.hok.fresh hle)
end PL
/-! ### part PL7 -/
namespace PL
open PySem PySem.Spec PyProof.Rows L2

/-! ### what is walked -/
/-- J hands out l; b: whatever else is done, as long as the lists at S stand -/
structure WkD (K : PySem.W.Frag) (J : It) (H0 : Hp) (S : Addr → Prop) (l : List D) : Prop where
  go : ∀ i H, i < l.length → Ext H0 H → (∀ a, S a → H a = H0 a) → J.go i H
  stop : ∀ H, Ext H0 H → (∀ a, S a → H a = H0 a) → J.stop l.length H
  yld : ∀ i H x H' d, l[i]? = some d → Ext H0 H → (∀ a, S a → H a = H0 a) → J.yld i H x H' → Same H H' ∧ RepF K H' d x
def iI (K : PySem.W.Frag) (b : Bool) (f : Rho → Option (List D)) : TI := fun σ H R => ∃ ρ l, ER K H σ ρ ∧ f ρ = some l ∧ ∀ J H' S, Same H H' → WkD K J H' S l → (∀ a, S a → ∃ xs, H' a = some (.lst xs)) → (b = true → ∀ a, ¬ S a) → R J H'
/-- b: by a body that may change lists of its own -/
def IE (X : Cx) (tg it : Expr) (b : Bool) (f : Rho → Option (List D)) : Prop := PI X tg it (iI X.K b f)
theorem PI.weak {X : Cx} {tg it : Expr} {w w' : TI} (h : PI X tg it w) (k : ∀ σ H R, w' σ H R → w σ H R) : PI X tg it w' := ⟨fun pins s σ H R I q => h.run pins s σ H R I (k σ H R q)⟩
theorem pi_or {X : Cx} {tg it : Expr} {w w' : TI} (h : PI X tg it w) (h' : PI X tg it w') : PI X tg it (fun σ H R => w σ H R ∨ w' σ H R) :=
  ⟨fun pins s σ H R I q => q.elim (fun q => h.run pins s σ H R I q) fun q => h'.run pins s σ H R I q⟩
def chars (z : Str) : List D := z.cps.toList.map fun c => .str ⟨#[c]⟩
def asSeq : D → Option (List D)
  | .lst xs => some xs
  | .tup xs => some xs
  | .str z => some (chars z)
  | _ => none
def fSeq (f : Rho → Option D) : Rho → Option (List D) := fun ρ => (f ρ).bind asSeq

theorem wk_tup {K : PySem.W.Frag} {H : Hp} {a : Addr} {vs : List V} {ds : List D} (h : SqT K H a vs) (r : RepL K H ds vs) : WkD K (Itt K a) H (fun _ => False) ds where
  go := fun i H1 hi e _ => by
    have hi' : i < vs.length := by rw [r.length]; exact hi
    exact ⟨vs, vs[i], e.sqT h, List.getElem?_eq_getElem hi'⟩
  stop := fun H1 e _ => ⟨vs, e.sqT h, by rw [r.length]; exact Nat.le_refl _⟩
  yld := fun i H1 x H' d hd e _ y => by
    obtain ⟨rfl, y⟩ := y
    have q := y vs (e.sqT h)
    obtain ⟨v, h1, h2⟩ := r.get hd
    rw [q] at h1; cases h1
    exact ⟨Same.refl _, h2.ext e⟩
theorem wk_lst {K : PySem.W.Frag} {H : Hp} {a : Addr} {vs : List V} {ds : List D} (h : Rd H a (.lst vs)) (r : RepL K H ds vs) : WkD K (Itl K a) H (fun b => b = a ∧ H a = some (.lst vs)) ds := by
  have keep : ∀ H1, Ext H H1 → (∀ b, b = a ∧ H a = some (.lst vs) → H1 b = H b) → SqL K H1 a vs := fun H1 e k => by
    rcases h with h | ⟨o, h⟩
    · exact .inl (.inl ((k a ⟨rfl, h⟩).trans h))
    · exact .inl (.inr ⟨o, e.frz _ _ _ h⟩)
  refine ⟨fun i H1 hi e k => ?_, fun H1 e k => ⟨vs, keep H1 e k, by rw [r.length]; exact Nat.le_refl _⟩, fun i H1 x H' d hd e k y => ?_⟩
  · have hi' : i < vs.length := by rw [r.length]; exact hi
    exact ⟨vs, vs[i], keep H1 e k, List.getElem?_eq_getElem hi'⟩
  · obtain ⟨rfl, y⟩ := y
    have q := y vs (keep _ e k)
    obtain ⟨v, h1, h2⟩ := r.get hd
    rw [q] at h1; cases h1
    exact ⟨Same.refl _, h2.ext e⟩
theorem wk_str {K : PySem.W.Frag} {H : Hp} {z : Str} : WkD K (Its z) H (fun _ => False) (chars z) where
  go := fun i H1 hi _ _ => by
    have : i < z.cps.size := by simpa [chars] using hi
    exact this
  stop := fun H1 _ _ => by
    show z.cps.size ≤ (chars z).length
    simp [chars]
  yld := fun i H1 x H' d hd e _ y => by
    obtain ⟨rfl, c, hc, rfl⟩ := y
    refine ⟨Same.refl _, ?_⟩
    have hd' : (z.cps.toList.map fun c => D.str ⟨#[c]⟩)[i]? = some d := hd
    rw [List.getElem?_map] at hd'
    have : z.cps.toList[i]? = some c := by simpa using hc
    rw [this] at hd'
    cases hd'
    exact repF_str
theorem wk_range {K : PySem.W.Frag} {H : Hp} {lo : Int} {n : Nat} : WkD K (Itr lo n) H (fun _ => False) ((List.range n).map fun i => .int (lo + (i : Nat))) where
  go := fun i H1 hi _ _ => by
    have : i < n := by simpa using hi
    exact this
  stop := fun H1 _ _ => by
    show n ≤ ((List.range n).map fun i => D.int (lo + (i : Nat))).length
    simp
  yld := fun i H1 x H' d hd e _ y => by
    obtain ⟨rfl, rfl⟩ := y
    refine ⟨Same.refl _, ?_⟩
    rw [List.getElem?_map] at hd
    obtain ⟨j, hj, rfl⟩ := Option.map_eq_some_iff.mp hd
    have := List.getElem?_eq_some_iff.mp hj
    obtain ⟨h1, h2⟩ := this
    simp at h2
    subst h2
    exact repF_int
theorem wk_rangeC {K : PySem.W.Frag} {H : Hp} {lo c : Int} {n : Nat} : WkD K (Itc lo c n) H (fun _ => False) ((List.range n).map fun i => .int (lo + (i : Nat) * c)) where
  go := fun i H1 hi _ _ => by
    have : i < n := by simpa using hi
    exact this
  stop := fun H1 _ _ => by
    show n ≤ ((List.range n).map fun i => D.int (lo + (i : Nat) * c)).length
    simp
  yld := fun i H1 x H' d hd e _ y => by
    obtain ⟨rfl, rfl⟩ := y
    refine ⟨Same.refl _, ?_⟩
    rw [List.getElem?_map] at hd
    obtain ⟨j, hj, rfl⟩ := Option.map_eq_some_iff.mp hd
    have := List.getElem?_eq_some_iff.mp hj
    obtain ⟨h1, h2⟩ := this
    simp at h2
    subst h2
    exact repF_int

section
variable {X : Cx} {tg e a b c : Expr} {f fa fb : Rho → Option D} {pos : Pos}
/-- over a frozen list, a tuple, a text -/
theorem ie_seq (h : FE X e f) : IE X tg e true (fSeq f) :=
  PI.weak (pi_or (pi_list h) (pi_or (pi_tup h) (pi_str h))) fun σ H R ⟨ρ, l, er, hf, q⟩ => by
    obtain ⟨d, h1, h2⟩ := Option.bind_eq_some_iff.mp hf
    cases d <;> simp only [asSeq, reduceCtorEq] at h2 <;> cases h2
    · exact .inr (.inr ⟨ρ, _, er, h1, fun v H' s r => ⟨_, repF_blv' r, q _ H' _ s wk_str (fun a z => z.elim) (fun _ a z => z)⟩⟩)
    · refine .inr (.inl ⟨ρ, _, er, h1, fun v H' s r => ?_⟩)
      obtain ⟨a, vs, rfl, ha, ra⟩ := repW_tup (RepW.of r)
      exact ⟨a, rfl, ⟨vs, ha⟩, q _ H' _ s (wk_tup ha ra) (fun a z => z.elim) (fun _ a z => z)⟩
    · refine .inl ⟨ρ, _, er, h1, fun v H' s r => ?_⟩
      simp only [RepF] at r
      obtain ⟨a, vs, o, rfl, ha, ra⟩ := r
      refine ⟨a, rfl, ⟨vs, .inl (.inr ⟨o, ha⟩)⟩, q _ H' _ s (wk_lst (.inr ⟨o, ha⟩) ra) (fun b z => ?_) (fun _ b z => ?_)⟩
      · obtain ⟨_, z⟩ := z; rw [ha] at z; cases z
      · obtain ⟨_, z⟩ := z; rw [ha] at z; cases z
where
  repF_blv' {K : PySem.W.Frag} {H : Hp} {z : Str} {v : V} (h : RepF K H (.str z) v) : v = .str z := by simpa only [RepF] using h
/-- over a list of the def's own, in a comprehension -/
theorem ie_seqW (h : WE X e f) : IE X tg e false (fSeq f) :=
  PI.weak (pi_or (pi_list h) (pi_or (pi_tup h) (pi_str h))) fun σ H R ⟨ρ, l, er, hf, q⟩ => by
    obtain ⟨d, h1, h2⟩ := Option.bind_eq_some_iff.mp hf
    cases d <;> simp only [asSeq, reduceCtorEq] at h2 <;> cases h2
    · exact .inr (.inr ⟨ρ, _, er, h1, fun v H' s r => ⟨_, repW_str r, q _ H' _ s wk_str (fun a z => z.elim) (fun _ a z => z)⟩⟩)
    · refine .inr (.inl ⟨ρ, _, er, h1, fun v H' s r => ?_⟩)
      obtain ⟨a, vs, rfl, ha, ra⟩ := repW_tup r
      exact ⟨a, rfl, ⟨vs, ha⟩, q _ H' _ s (wk_tup ha ra) (fun a z => z.elim) (fun _ a z => z)⟩
    · refine .inl ⟨ρ, _, er, h1, fun v H' s r => ?_⟩
      obtain ⟨a, vs, rfl, ha, ra⟩ := repW_lst r
      exact ⟨a, rfl, ⟨vs, .inl ha⟩, q _ H' _ s (wk_lst ha ra) (fun b z => by rw [z.1]; exact ⟨vs, z.2⟩) (fun z => nomatch z)⟩
theorem ie_weak (h : IE X tg e true f') : IE X tg e false f' := PI.weak h fun σ H R ⟨ρ, l, er, hf, q⟩ => ⟨ρ, l, er, hf, fun J H' S s w k1 k2 => q J H' S s w k1 (fun z => nomatch z)⟩
noncomputable def inR (i : Int) : Bool := cdec (-(2 ^ 62) ≤ i ∧ i < 2 ^ 62)
theorem inR_ok {i : Int} (h : inR i = true) : -(2 ^ 62) ≤ i ∧ i < 2 ^ 62 := by
  exact cdec_iff.mp h
noncomputable def rng1 : List D → Option (List D)
  | [.int j] => if inR j then some ((List.range j.toNat).map fun i => .int (0 + (i : Nat))) else none
  | _ => none
noncomputable def rng2 : List D → Option (List D)
  | [.int i, .int j] => if inR i && inR j then some ((List.range (j - i).toNat).map fun k => .int (i + (k : Nat))) else none
  | _ => none
def fRng (g : List D → Option (List D)) (fs : Rho → Option (List D)) : Rho → Option (List D) := fun ρ => (fs ρ).bind g
theorem ie_range1 {fs : Rho → Option (List D)} {p : Pos} (hg : Gl X "range") (hm : X.mg "range" = none) (ha : AE X [a] fs) (hs : starEach [a] X.env = [(false, eval a X.env)] := by rfl) :
    IE X tg (.Call (.Name "range" p) [a] [] pos) true (fRng rng1 fs) :=
  PI.weak (pi_range1 hg hm ha hs) fun σ H R ⟨ρ, l, er, hf, q⟩ => by
    obtain ⟨ds, h1, h2⟩ := Option.bind_eq_some_iff.mp hf
    refine ⟨ρ, ds, er, h1, fun vs H1 s1 r1 => ?_⟩
    unfold rng1 at h2
    split at h2
    · rename_i j
      split at h2 <;> cases h2
      rename_i hj
      obtain ⟨b1, b2⟩ := inR_ok hj
      simp only [RepL, RepF] at r1
      obtain ⟨v, r', rfl, rfl, rfl⟩ := r1
      exact ⟨j, rfl, b1, b2, q _ H1 _ s1 wk_range (fun a z => z.elim) (fun _ a z => z)⟩
    · cases h2
theorem ie_range2 {fs : Rho → Option (List D)} {p : Pos} (hg : Gl X "range") (hm : X.mg "range" = none) (ha : AE X [a, b] fs) (hs : starEach [a, b] X.env = [(false, eval a X.env), (false, eval b X.env)] := by rfl) (hs2 : starEach [b] X.env = [(false, eval b X.env)] := by rfl) :
    IE X tg (.Call (.Name "range" p) [a, b] [] pos) true (fRng rng2 fs) :=
  PI.weak (pi_range2 hg hm ha hs hs2) fun σ H R ⟨ρ, l, er, hf, q⟩ => by
    obtain ⟨ds, h1, h2⟩ := Option.bind_eq_some_iff.mp hf
    refine ⟨ρ, ds, er, h1, fun vs H1 s1 r1 => ?_⟩
    unfold rng2 at h2
    split at h2
    · rename_i i j
      split at h2 <;> cases h2
      rename_i hj
      rw [Bool.and_eq_true] at hj
      obtain ⟨b1, b2⟩ := inR_ok hj.1
      obtain ⟨b3, b4⟩ := inR_ok hj.2
      have := repL_two r1
      subst this
      exact ⟨i, j, rfl, ⟨b1, b2, b3, b4⟩, q _ H1 _ s1 wk_range (fun a z => z.elim) (fun _ a z => z)⟩
    · cases h2

/-! ### zip -/
def zipD : List D → List D → List D
  | x :: xs, y :: ys => .tup [x, y] :: zipD xs ys
  | _, _ => []
theorem zipD_len : ∀ (xs ys : List D), (zipD xs ys).length = min xs.length ys.length
  | [], ys => by simp [zipD]
  | _ :: _, [] => by simp [zipD]
  | x :: xs, y :: ys => by simp [zipD, zipD_len xs ys] <;> omega
theorem zipD_get : ∀ (xs ys : List D) (i : Nat) (d : D), (zipD xs ys)[i]? = some d → ∃ x y, xs[i]? = some x ∧ ys[i]? = some y ∧ d = .tup [x, y]
  | [], ys, i, d, h => by simp [zipD] at h
  | _ :: _, [], i, d, h => by simp [zipD] at h
  | x :: xs, y :: ys, 0, d, h => by simp [zipD] at h; exact ⟨x, y, rfl, rfl, h.symm⟩
  | x :: xs, y :: ys, i + 1, d, h => by
    obtain ⟨u, v, h1, h2, h3⟩ := zipD_get xs ys i d (by simpa [zipD] using h)
    exact ⟨u, v, by simpa using h1, by simpa using h2, h3⟩
theorem wk_zip {K : PySem.W.Frag} {H : Hp} {k1 k2 : Bool} {a b : Addr} {vs us : List V} {ds es : List D} (S : Addr → Prop) (h1 : ∀ H1, Ext H H1 → (∀ b, S b → H1 b = H b) → sSrc K k1 H1 a vs) (h2 : ∀ H1, Ext H H1 → (∀ b, S b → H1 b = H b) → sSrc K k2 H1 b us)
    (r1 : RepL K H ds vs) (r2 : RepL K H es us) : WkD K (ItzM K k1 k2 a b) H S (zipD ds es) where
  go := fun i H1 hi e k => by
    rw [zipD_len] at hi
    have e1 : i < vs.length := by rw [r1.length]; omega
    have e2 : i < us.length := by rw [r2.length]; omega
    exact ⟨vs, us, vs[i], us[i], h1 H1 e k, h2 H1 e k, List.getElem?_eq_getElem e1, List.getElem?_eq_getElem e2⟩
  stop := fun H1 e k => ⟨vs, us, h1 H1 e k, h2 H1 e k, by rw [zipD_len, r1.length, r2.length]⟩
  yld := fun i H1 x H' d hd e k y => by
    obtain ⟨T, x1, y1, rfl, nT, rfl, f1, f2⟩ := y
    obtain ⟨u, v, g1, g2, rfl⟩ := zipD_get _ _ _ _ hd
    obtain ⟨w1, p1, p2⟩ := r1.get g1
    obtain ⟨w2, p3, p4⟩ := r2.get g2
    have q1 := f1 vs (h1 H1 e k)
    have q2 := f2 us (h2 H1 e k)
    rw [p1] at q1; cases q1
    rw [p3] at q2; cases q2
    have s := same_new (o := .tup [x1, y1]) nT
    exact ⟨s, repF_tup (.of upd_same) (RepL.cons ((p2.ext e).ext (Ext.of s)) (RepL.one ((p4.ext e).ext (Ext.of s))))⟩
/-- how a value to be zipped stands -/
theorem src_of {K : PySem.W.Frag} {H : Hp} {d : D} {v : V} {ds : List D} (r : RepF K H d v) (h : asSeq d = some ds) (hn : ∀ z, d ≠ .str z) : ∃ (k : Bool) (a : Addr) (vs : List V), v = .ref a ∧ RepL K H ds vs ∧ ∀ H1, Ext H H1 → sSrc K k H1 a vs := by
  cases d <;> simp only [asSeq, reduceCtorEq] at h <;> cases h
  · exact absurd rfl (hn _)
  · obtain ⟨a, vs, rfl, ha, ra⟩ := repW_tup (RepW.of r)
    exact ⟨true, a, vs, rfl, ra, fun H1 e => e.sqT ha⟩
  · simp only [RepF] at r
    obtain ⟨a, vs, o, rfl, ha, ra⟩ := r
    exact ⟨false, a, vs, rfl, ra, fun H1 e => .inl (.inr ⟨o, e.frz _ _ _ ha⟩)⟩
def noStr : D → Bool
  | .str _ => false
  | _ => true
def zip2 (x y : D) : Option (List D) := if noStr x && noStr y then (asSeq x).bind fun xs => (asSeq y).map fun ys => zipD xs ys else none
def fZip (fa fb : Rho → Option D) : Rho → Option (List D) := fun ρ => (fa ρ).bind fun x => (fb ρ).bind fun y => zip2 x y
theorem noStr_ok {d : D} (h : noStr d = true) : ∀ z, d ≠ .str z := fun z e => by subst e; simp [noStr] at h
theorem ie_zip {p pos tpos : Pos} {elts : List Expr} {kk : Nat} (hg : Gl X "zip") (hm : X.mg "zip" = none) (ha : FE X a fa) (hb : FE X b fb) (hs : starEach [a, b] X.env = (false, eval a X.env) :: starEach [b] X.env := by rfl)
    (hs2 : starEach [b] X.env = (false, eval b X.env) :: starEach [] X.env := by rfl) (hpl : (backTo pos (starEach [b] X.env)).any (·.1) = false := by rfl) : IE X (.Tuple elts kk tpos) (.Call (.Name "zip" p) [a, b] [] pos) true (fZip fa fb) :=
  PI.weak (pi_zipM hg hm (pa_cons ha (pa_cons hb pa_nil hs2) hs) hs hpl) fun σ H R ⟨ρ, l, er, hf, q⟩ => by
    obtain ⟨x, h1, hf1⟩ := Option.bind_eq_some_iff.mp hf
    obtain ⟨y, h2, h3⟩ := Option.bind_eq_some_iff.mp hf1
    refine ⟨ρ, x, er, h1, fun v H1 s1 r1 => ⟨ρ, y, er.same s1, h2, fun u H2 s2 r2 => ?_⟩⟩
    unfold zip2 at h3
    split at h3
    · rename_i hn
      rw [Bool.and_eq_true] at hn
      obtain ⟨xs, h4, h5⟩ := Option.bind_eq_some_iff.mp h3
      obtain ⟨ys, h6, rfl⟩ := Option.map_eq_some_iff.mp h5
      obtain ⟨k1, p1, vs, rfl, rv, w1⟩ := src_of (r1.ext (Ext.of s2)) h4 (noStr_ok hn.1)
      obtain ⟨k2, p2, us, rfl, ru, w2⟩ := src_of r2 h6 (noStr_ok hn.2)
      exact ⟨p1, p2, vs, us, k1, k2, rfl, w1 H2 (Ext.refl _), w2 H2 (Ext.refl _), q _ H2 (fun _ => False) (s1.trans s2) (wk_zip _ (fun H1 e _ => w1 H1 e) (fun H1 e _ => w2 H1 e) rv ru) (fun a z => z.elim) (fun _ a z => z)⟩
    · cases h3
end
end PL
/-! ### part PL8 -/
namespace PL
open PySem PySem.Spec PyProof.Rows L2

/-! ### targets -/
/-- slots set one after another, to frozen values -/
inductive Sets (K : PySem.W.Frag) (H : Hp) (is : List Nat) : L2.St → Rho → L2.St → Rho → Prop
  | refl {σ ρ} : Sets K H is σ ρ σ ρ
  | step {σ ρ σ' ρ' : _} {i : Nat} {d : D} {v : V} : i ∈ is → Sets K H is σ ρ σ' ρ' → RepF K H d v → Sets K H is σ ρ (σ'.set i (some v)) (ρ'.set i (some d))
theorem Sets.trans {K : PySem.W.Frag} {H : Hp} {is : List Nat} {σ σ1 σ2 : L2.St} {ρ ρ1 ρ2 : Rho} (a : Sets K H is σ ρ σ1 ρ1) (b : Sets K H is σ1 ρ1 σ2 ρ2) : Sets K H is σ ρ σ2 ρ2 := by
  induction b with
  | refl => exact a
  | step hi _ r ih => exact .step hi ih r
theorem Sets.mono {K : PySem.W.Frag} {H : Hp} {is js : List Nat} {σ σ1 : L2.St} {ρ ρ1 : Rho} (h : ∀ i ∈ is, i ∈ js) (a : Sets K H is σ ρ σ1 ρ1) : Sets K H js σ ρ σ1 ρ1 := by
  induction a with
  | refl => exact .refl
  | step hi _ r ih => exact .step (h _ hi) ih r
theorem Sets.ext {K : PySem.W.Frag} {H H' : Hp} {is : List Nat} {σ σ1 : L2.St} {ρ ρ1 : Rho} (e : Ext H H') (a : Sets K H is σ ρ σ1 ρ1) : Sets K H' is σ ρ σ1 ρ1 := by
  induction a with
  | refl => exact .refl
  | step hi _ r ih => exact .step hi ih (r.ext e)
theorem Sets.er {K : PySem.W.Frag} {H : Hp} {is : List Nat} {σ σ1 : L2.St} {ρ ρ1 : Rho} (a : Sets K H is σ ρ σ1 ρ1) (h : ER K H σ ρ) : ER K H σ1 ρ1 := by
  induction a with
  | refl => exact h
  | step _ _ r ih => exact ih.set (.of r)
theorem Sets.ers {K : PySem.W.Frag} {H0 H : Hp} {is : List Nat} {σ σ1 : L2.St} {ρ ρ1 : Rho} (a : Sets K H is σ ρ σ1 ρ1) (h : ERS K H0 H σ ρ) : ERS K H0 H σ1 ρ1 := by
  induction a with
  | refl => exact h
  | step _ _ r ih => exact ih.set (Same.refl _) (.of r)
def wipeR (ρ : Rho) : List Nat → Rho
  | [] => ρ
  | v :: vs => (wipeR ρ vs).set v none
theorem er_wipe {K : PySem.W.Frag} {H : Hp} {σ : L2.St} {ρ : Rho} (h : ER K H σ ρ) : ∀ vs : List Nat, ER K H (wipe σ vs) (wipeR ρ vs)
  | [] => h
  | v :: vs => by
    have ih := er_wipe h vs
    unfold wipe wipeR
    refine ⟨by simp [ih.len], fun i d q => ?_⟩
    by_cases hi : v = i
    · subst hi
      have hl : v < (wipeR ρ vs).length := by simpa using (List.getElem?_eq_some_iff.mp q).1
      rw [List.getElem?_set_self hl] at q; cases q
    · rw [List.getElem?_set_ne hi] at q ⊢
      exact ih.slot i d q
theorem wipe_set {i : Nat} {x : Option V} {σ : L2.St} : ∀ {vs : List Nat}, i ∈ vs → wipe (σ.set i x) vs = wipe σ vs
  | v :: vs, h => by
    unfold wipe
    by_cases hv : i ∈ vs
    · rw [wipe_set hv]
    · have hi : i = v := by
        rcases List.mem_cons.mp h with e | e
        · exact e
        · exact absurd e hv
      subst hi
      have push : ∀ (ws : List Nat) (τ : L2.St), i ∉ ws → wipe (τ.set i x) ws = (wipe τ ws).set i x := by
        intro ws
        induction ws with
        | nil => intro τ _; rfl
        | cons w ws ih =>
          intro τ hw
          simp only [List.mem_cons, not_or] at hw
          unfold wipe
          rw [ih τ hw.2, List.set_comm _ _ hw.1]
      rw [push vs σ hv, List.set_set]
theorem Sets.wipe {K : PySem.W.Frag} {H : Hp} {is vs : List Nat} {σ σ1 : L2.St} {ρ ρ1 : Rho} (a : Sets K H is σ ρ σ1 ρ1) (h : ∀ i ∈ is, i ∈ vs) : L2.wipe σ1 vs = L2.wipe σ vs := by
  induction a with
  | refl => rfl
  | step hi _ _ ih => rw [wipe_set (h _ hi), ih]
theorem wipe_wipe {σ : L2.St} : ∀ (vs : List Nat), wipe (wipe σ vs) vs = wipe σ vs := by
  intro vs
  have gen : ∀ (us ws : List Nat), (∀ u ∈ us, u ∈ ws) → wipe (wipe σ us) ws = wipe σ ws := by
    intro us
    induction us with
    | nil => intro ws _; rfl
    | cons u us ih =>
      intro ws h
      show wipe ((wipe σ us).set u none) ws = _
      rw [wipe_set (h u List.mem_cons_self), ih ws fun x hx => h x (List.mem_cons_of_mem _ hx)]
  exact gen vs vs fun _ h => h

abbrev Tgt := D → Rho → Option Rho
def tT (K : PySem.W.Frag) (is : List Nat) (t : Tgt) : TG := fun v σ H Q => ∃ ρ d ρ', ER K H σ ρ ∧ RepF K H d v ∧ t d ρ = some ρ' ∧ ∀ σ' H', Same H H' → Sets K H' is σ ρ σ' ρ' → Q σ' H'
def tTs (K : PySem.W.Frag) (is : List Nat) (t : List D → Rho → Option Rho) : TGs := fun vs σ H Q => ∃ ρ ds ρ', ER K H σ ρ ∧ RepL K H ds vs ∧ t ds ρ = some ρ' ∧ ∀ σ' H', Same H H' → Sets K H' is σ ρ σ' ρ' → Q σ' H'
def GE (X : Cx) (tg : Expr) (is : List Nat) (t : Tgt) : Prop := PG X tg (tT X.K is t)
def GEs (X : Cx) (tg : List Expr) (is : List Nat) (t : List D → Rho → Option Rho) : Prop := PGs X tg (tTs X.K is t)
theorem PG.weak {X : Cx} {tg : Expr} {t t' : TG} (h : PG X tg t) (k : ∀ v σ H Q, t' v σ H Q → t v σ H Q) : PG X tg t' := ⟨fun pins s σ H v u Q I r q => h.run pins s σ H v u Q I r (k v σ H Q q)⟩
theorem PGs.weak {X : Cx} {tg : List Expr} {t t' : TGs} (h : PGs X tg t) (k : ∀ v σ H Q, t' v σ H Q → t v σ H Q) : PGs X tg t' := ⟨fun pins s σ H v u Q I r q => h.run pins s σ H v u Q I r (k v σ H Q q)⟩
def tName (i : Nat) : Tgt := fun d ρ => some (ρ.set i (some d))
def tNil : List D → Rho → Option Rho
  | [], ρ => some ρ
  | _ :: _, _ => none
def tCons (t : Tgt) (ts : List D → Rho → Option Rho) : List D → Rho → Option Rho
  | d :: r, ρ => (t d ρ).bind (ts r)
  | [], _ => none
def tTup (n : Nat) (ts : List D → Rho → Option Rho) : Tgt := fun d ρ => match d with
  | .tup ds => if ds.length = n then ts ds ρ else none
  | _ => none
section
variable {X : Cx} {pos : Pos}
theorem ge_name {x : Str} (i : Nat) (hN : X.N.Nodup) (hi : X.N[i]? = some x) (hx : Loc X.env.scope x) (hf : X.fn x = true ∨ X.env.scope.names.lookup x = some .local) : GE X (.Name x pos) [i] (tName i) :=
  PG.weak (pg_name hN hi hx hf) fun v σ H Q ⟨ρ, d, ρ', er, r, ht, q⟩ => by
    cases ht
    exact q _ H (Same.refl H) (.step (by simp) .refl r)
theorem ges_nil : GEs X [] [] tNil := PGs.weak pgs_nil fun vs σ H Q ⟨ρ, ds, ρ', er, r, ht, q⟩ => by
  cases ds with
  | nil => simp only [RepL] at r; cases ht; exact ⟨r, q σ H (Same.refl H) .refl⟩
  | cons d ds => simp [tNil] at ht
theorem ges_cons {e : Expr} {es : List Expr} {is js : List Nat} {t : Tgt} {ts : List D → Rho → Option Rho} (h1 : GE X e is t) (h2 : GEs X es js ts) (hs : (assignEach (e :: es) X.env).map (·.2) = assign e X.env :: (assignEach es X.env).map (·.2) := by rfl) :
    GEs X (e :: es) (is ++ js) (tCons t ts) := PGs.weak (pgs_cons h1 h2 hs) fun vs σ H Q ⟨ρ, ds, ρ', er, r, ht, q⟩ => by
  cases ds with
  | nil => simp [tCons] at ht
  | cons d ds =>
    obtain ⟨ρ1, h3, h4⟩ := Option.bind_eq_some_iff.mp ht
    simp only [RepL] at r
    obtain ⟨v, vr, rfl, r1, r2⟩ := r
    refine ⟨v, vr, rfl, ρ, d, ρ1, er, r1, h3, fun σ1 H1 s1 st1 => ⟨ρ1, ds, ρ', st1.er (er.same s1), r2.ext (Ext.of s1), h4, fun σ2 H2 s2 st2 => q σ2 H2 (s1.trans s2) ?_⟩⟩
    exact ((st1.ext (Ext.of s2)).mono fun i hi => List.mem_append_left _ hi).trans (st2.mono fun i hi => List.mem_append_right _ hi)
theorem ge_tup {es : List Expr} {k n : Nat} {is : List Nat} {ts : List D → Rho → Option Rho} (hc : X.calm = true) (h : GEs X es is ts) (hn : (assignEach es X.env).length = n := by rfl) (hst : (assignEach es X.env).findIdx? (·.1) = none := by rfl) :
    GE X (.Tuple es k pos) is (tTup n ts) := PG.weak (pg_tup hc h hn hst) fun v σ H Q ⟨ρ, d, ρ', er, r, ht, q⟩ => by
  cases d <;> simp only [tTup, reduceCtorEq] at ht
  split at ht
  · rename_i hl
    obtain ⟨a, vs, rfl, ha, ra⟩ := repW_tup (RepW.of r)
    exact ⟨a, vs, rfl, ha, by rw [ra.length]; exact hl, ρ, _, ρ', er, ra, ht, q⟩
  · cases ht
end

/-! ### comprehensions -/
def compGo (t : Tgt) (c : Rho → Option Bool) (e : Rho → Option D) (ρ : Rho) : List D → Option (List D)
  | [] => some []
  | d :: r => (t d ρ).bind fun ρ1 => (c ρ1).bind fun b => if b = true then (e ρ1).bind fun y => (compGo t c e ρ r).map (y :: ·) else compGo t c e ρ r
def fComp (src : Rho → Option (List D)) (vs : List Nat) (t : Tgt) (c : Rho → Option Bool) (e : Rho → Option D) : Rho → Option D := fun ρ => (src ρ).bind fun l => if small l.length then (compGo t c e (wipeR ρ vs) l).map .opn else none
def cYes : Rho → Option Bool := fun _ => some true
/-- a clause's tests -/
def IFs (X : Cx) (ifs : List Expr) (c : Rho → Option Bool) : Prop := PTs X ifs (tB X.K c)
theorem PTs.weak {X : Cx} {ifs : List Expr} {t t' : TT} (h : PTs X ifs t) (k : ∀ σ H Q, t' σ H Q → t σ H Q) : PTs X ifs t' := ⟨fun pins s σ H Q I q => h.run pins s σ H Q I (k σ H Q q)⟩
theorem ifs_nil {X : Cx} : IFs X [] cYes := PTs.weak pts_nil fun σ H Q ⟨ρ, b, er, hf, q⟩ => by cases hf; exact q H (Same.refl H)
theorem ifs_one {X : Cx} {c : Expr} {f : Rho → Option Bool} (h : BE X c f) : IFs X [c] f := pts_one h
theorem tlc_of {K : PySem.W.Frag} {b : Bool} {src : Rho → Option (List D)} {is vs : List Nat} {t : Tgt} {c : Rho → Option Bool} {e : Rho → Option D} (hv : ∀ i ∈ is, i ∈ vs) {σ : L2.St} {H : Hp} {Q : VK}
    (h : tM K (fComp src vs t c e) σ H Q) : tLc (iI K b src) (tT K is t) (tB K c) (tF K e) vs σ H Q := by
  obtain ⟨ρ, d0, er, hf, q⟩ := h
  obtain ⟨l, h1, h2⟩ := Option.bind_eq_some_iff.mp hf
  split at h2
  · rename_i hsm
    obtain ⟨out, h3, rfl⟩ := Option.map_eq_some_iff.mp h2
    refine ⟨ρ, l, er, h1, fun J H1 S s1 w hS _ D hD => ?_⟩
    have hl := small_le hsm
    refine ⟨fun i m H2 => m = l.length - i ∧ i ≤ l.length ∧ ∃ acc rest vs2, compGo t c e (wipeR ρ vs) (l.drop i) = some rest ∧ acc ++ rest = out ∧ H2 D = some (.lst vs2) ∧ RepL K H2 acc vs2 ∧ acc.length ≤ i ∧ Same H1 H2,
      ⟨l.length, by simp, Nat.zero_le _, [], out, [], by simpa using h3, rfl, upd_same, .nil, Nat.le_refl _, same_new hD⟩, ?_⟩
    rintro i m H2 ⟨rfl, hi, acc, rest, vs2, g1, g2, g3, g4, g5, g6⟩
    have kS : ∀ a, S a → H2 a = H1 a := fun a ha => by
      obtain ⟨xs, hx⟩ := hS a ha
      rw [hx, g6 a _ hx]
    by_cases hlt : i < l.length
    · refine .inr ⟨w.go i H2 hlt (Ext.of g6) kS, _, fun H' n => ⟨l.length - (i + 1), by omega, rfl, hlt, n⟩, fun x H3 y => ?_⟩
      have hd : l[i]? = some l[i] := List.getElem?_eq_getElem hlt
      obtain ⟨s3, r3⟩ := w.yld i H2 x H3 l[i] hd (Ext.of g6) kS y
      have e1 : l.drop i = l[i] :: l.drop (i + 1) := List.drop_eq_getElem_cons hlt
      rw [e1] at g1
      simp only [compGo] at g1
      obtain ⟨ρ1, t1, g1a⟩ := Option.bind_eq_some_iff.mp g1
      obtain ⟨bb, t2, g1b⟩ := Option.bind_eq_some_iff.mp g1a
      have er3 : ER K H3 (wipe σ vs) (wipeR ρ vs) := er_wipe (er.same ((s1.trans g6).trans s3)) vs
      refine ⟨wipeR ρ vs, l[i], ρ1, er3, r3, t1, fun σ4 H4 s4 st => ⟨?_, ?_⟩⟩
      · rw [st.wipe hv, wipe_wipe]
      refine ⟨ρ1, bb, st.er (er3.same s4), t2, fun H5 s5 => ?_⟩
      cases bb with
      | false =>
        simp only [Bool.false_eq_true, if_false] at g1b ⊢
        have s25 := (s3.trans s4).trans s5
        exact ⟨acc, rest, vs2, g1b, g2, s25 _ _ g3, g4.ext (Ext.of s25), by omega, g6.trans s25⟩
      | true =>
        simp only [if_true] at g1b ⊢
        obtain ⟨y1, t3, g1c⟩ := Option.bind_eq_some_iff.mp g1b
        obtain ⟨rest', g1d, rfl⟩ := Option.map_eq_some_iff.mp g1c
        refine ⟨ρ1, y1, st.er (er3.same s4) |>.same s5, t3, fun v H6 s6 r6 => ?_⟩
        have s26 := ((s3.trans s4).trans s5).trans s6
        have g36 := s26 _ _ g3
        have ext : Ext H6 (upd H6 D (.lst (vs2 ++ [v]))) := Ext.updO (.inl (by rw [g36]; trivial))
        refine ⟨vs2, g36, ?_, acc ++ [y1], rest', vs2 ++ [v], g1d, by rw [List.append_assoc]; exact g2, upd_same, ?_, by rw [List.length_append, List.length_singleton]; omega, same_new2 (g6.trans s26) hD⟩
        · rw [g4.length]; omega
        · exact ((g4.ext (Ext.of s26)).append (RepL.one r6)).ext ext
    · have e : i = l.length := by omega
      subst e
      rw [List.drop_length] at g1
      simp only [compGo] at g1
      cases g1
      rw [List.append_nil] at g2
      subst g2
      exact .inl ⟨w.stop H2 (Ext.of g6) kS, q _ H2 (s1.trans g6) ⟨D, vs2, rfl, s1.free hD, g3, g4⟩⟩
  · cases h2
section
variable {X : Cx}
theorem me_lc {elt tg iter : Expr} {ifs : List Expr} {scope : Scope} {own : List (Str × Nat)} {pos : Pos} {b : Bool} {src : Rho → Option (List D)} {is vs : List Nat} {t : Tgt} {c : Rho → Option Bool} {e : Rho → Option D} (hc : X.calm = true) (hN : X.N.Nodup) (hi : IE X tg iter b src) (ok : BlkOk X.N X.env.scope scope own)
    (hg : ∀ (s : Shared) (H : Hp) (C : Addr) (cl : List (Str × Addr)) (fp : List Addr), GE (X.blk s H scope (compEnvC scope cl C X.env) fp) tg is t) (ht : ∀ (s : Shared) (H : Hp) (C : Addr) (cl : List (Str × Addr)) (fp : List Addr), IFs (X.blk s H scope (compEnvC scope cl C X.env) fp) ifs c)
    (he : ∀ (s : Shared) (H : Hp) (C : Addr) (cl : List (Str × Addr)) (fp : List Addr), FE (X.blk s H scope (compEnvC scope cl C X.env) fp) elt e) (hvs : own.map (·.2) = vs := by rfl) (hv : ∀ i ∈ is, i ∈ vs := by decide) (hs : ∀ x, foldedSetIterable iter X.env x = pure x := by intro _; rfl) :
    ME X (.ListComp elt [⟨tg, iter, ifs, 0⟩] scope pos) (fComp src vs t c e) := by
  subst hvs
  exact PE.weak (pe_lc (g := tT X.K is t) (tt := tB X.K c) (te := tF X.K e) hc hN hi ok hg ht he hs) fun σ H Q h => tlc_of hv h
theorem fe_lc {elt tg iter : Expr} {ifs : List Expr} {scope : Scope} {own : List (Str × Nat)} {pos : Pos} {b : Bool} {src : Rho → Option (List D)} {is vs : List Nat} {t : Tgt} {c : Rho → Option Bool} {e : Rho → Option D} (hc : X.calm = true) (hN : X.N.Nodup) (hi : IE X tg iter b src) (ok : BlkOk X.N X.env.scope scope own)
    (hg : ∀ (s : Shared) (H : Hp) (C : Addr) (cl : List (Str × Addr)) (fp : List Addr), GE (X.blk s H scope (compEnvC scope cl C X.env) fp) tg is t) (ht : ∀ (s : Shared) (H : Hp) (C : Addr) (cl : List (Str × Addr)) (fp : List Addr), IFs (X.blk s H scope (compEnvC scope cl C X.env) fp) ifs c)
    (he : ∀ (s : Shared) (H : Hp) (C : Addr) (cl : List (Str × Addr)) (fp : List Addr), FE (X.blk s H scope (compEnvC scope cl C X.env) fp) elt e) (hvs : own.map (·.2) = vs := by rfl) (hv : ∀ i ∈ is, i ∈ vs := by decide) (hs : ∀ x, foldedSetIterable iter X.env x = pure x := by intro _; rfl) :
    FE X (.ListComp elt [⟨tg, iter, ifs, 0⟩] scope pos) (fz (fComp src vs t c e)) := fe_of_me (me_lc hc hN hi ok hg ht he hvs hv hs)
end
end PL
/-! ### part PL9 -/
namespace PL
open PySem PySem.Spec PyProof.Rows L2

/-! ### statements -/
inductive Fl where
  | nx (ρ : Rho) | rt (d : D) | bk (ρ : Rho) | ct (ρ : Rho)
/-- what is wanted of an end, from H on -/
def FlK (K : PySem.W.Frag) (H0 H : Hp) (E : Ends) : Fl → Prop
  | .nx ρ => ∀ σ H', Ext H H' → ERS K H0 H' σ ρ → E.nx σ H'
  | .bk ρ => ∀ σ H', Ext H H' → ERS K H0 H' σ ρ → E.bk σ H'
  | .ct ρ => ∀ σ H', Ext H H' → ERS K H0 H' σ ρ → E.ct σ H'
  | .rt d => ∀ v H', Same H0 H' → RepM K H0 H' d v → E.rt v H'
theorem FlK.ext {K : PySem.W.Frag} {H0 H H' : Hp} {E : Ends} {fl : Fl} (h : FlK K H0 H E fl) (e : Ext H H') : FlK K H0 H' E fl := by
  cases fl with
  | rt d => exact h
  | nx ρ => exact fun σ H2 e2 r => h σ H2 (e.trans e2) r
  | bk ρ => exact fun σ H2 e2 r => h σ H2 (e.trans e2) r
  | ct ρ => exact fun σ H2 e2 r => h σ H2 (e.trans e2) r
def tS (K : PySem.W.Frag) (H0 : Hp) (g : Rho → Option Fl) : TS := fun E σ H => ∃ ρ fl, ERS K H0 H σ ρ ∧ g ρ = some fl ∧ FlK K H0 H E fl
def SE (X : Cx) (H0 : Hp) (st : Stmt) (g : Rho → Option Fl) : Prop := PS X st (tS X.K H0 g)
def SEs (X : Cx) (H0 : Hp) (st : List Stmt) (g : Rho → Option Fl) : Prop := PSs X st (tS X.K H0 g)
theorem PSs.weak {X : Cx} {st : List Stmt} {t t' : TS} (h : PSs X st t) (k : ∀ D σ H, t' D σ H → t D σ H) : PSs X st t' := ⟨fun pins s σ H D I q => h.run pins s σ H D I (k D σ H q)⟩
def gNil : Rho → Option Fl := fun ρ => some (.nx ρ)
def thenG (g2 : Rho → Option Fl) : Fl → Option Fl
  | .nx ρ => g2 ρ
  | fl => some fl
def gSeq (g1 g2 : Rho → Option Fl) : Rho → Option Fl := fun ρ => (g1 ρ).bind (thenG g2)
section
variable {X : Cx} {H0 : Hp} {st : Stmt} {sts : List Stmt} {g g1 g2 : Rho → Option Fl} {e a b c : Expr} {f fa fb fc : Rho → Option D} {pos : Pos}
theorem ses_nil : SEs X H0 [] gNil := PSs.weak pss_nil fun E σ H ⟨ρ, fl, er, hf, k⟩ => by cases hf; exact k σ H (Ext.refl H) er
theorem ses_cons (h1 : SE X H0 st g1) (h2 : SEs X H0 sts g2) : SEs X H0 (st :: sts) (gSeq g1 g2) := PSs.weak (pss_cons h1 h2) fun E σ H ⟨ρ, fl, er, hf, k⟩ => by
  obtain ⟨fl1, h3, h4⟩ := Option.bind_eq_some_iff.mp hf
  refine ⟨ρ, fl1, er, h3, ?_⟩
  cases fl1 with
  | nx ρ' => exact fun σ' H' e' er' => ⟨ρ', fl, er', h4, k.ext e'⟩
  | rt d => cases h4; exact k
  | bk ρ' => cases h4; exact k
  | ct ρ' => cases h4; exact k
theorem se_pass : SE X H0 (.Pass pos) gNil := PS.weak ps_pass fun E σ H ⟨ρ, fl, er, hf, k⟩ => by cases hf; exact k σ H (Ext.refl H) er
def gBreak : Rho → Option Fl := fun ρ => some (.bk ρ)
def gCont : Rho → Option Fl := fun ρ => some (.ct ρ)
theorem se_break : SE X H0 (.Break pos) gBreak := PS.weak ps_break fun E σ H ⟨ρ, fl, er, hf, k⟩ => by cases hf; exact k σ H (Ext.refl H) er
theorem se_continue : SE X H0 (.Continue pos) gCont := PS.weak ps_continue fun E σ H ⟨ρ, fl, er, hf, k⟩ => by cases hf; exact k σ H (Ext.refl H) er
/-- name = e -/
def gSet (i : Nat) (f : Rho → Option D) : Rho → Option Fl := fun ρ => (f ρ).map fun d => .nx (ρ.set i (some d))
theorem tset_of {i : Nat} {E : Ends} {σ : L2.St} {H : Hp} (h : tS X.K H0 (gSet i f) E σ H) : tAsg (tM X.K f) (gName i) E σ H := by
  obtain ⟨ρ, fl, er, hf, k⟩ := h
  obtain ⟨d, h1, rfl⟩ := Option.map_eq_some_iff.mp hf
  exact ⟨ρ, d, er.toER, h1, fun v H' s r => k _ H' (Ext.of s) (er.set s r)⟩
theorem se_set {x : Str} {pos' : Pos} (i : Nat) (hN : X.N.Nodup) (hi : X.N[i]? = some x) (hx : Loc X.env.scope x) (he : ME X e f) (hf : X.fn x = true ∨ X.env.scope.names.lookup x = some .local)
    (hs : swapsWith e (some (.Name x pos')) pos.line X.env = pure false := by rfl) : SE X H0 (.Assign [.Name x pos'] e pos) (gSet i f) :=
  PS.weak (ps_set hN hi hx he hs hf) fun E σ H h => tset_of h
/-- name = [..] -/
theorem se_setLc {y : Str} {py : Pos} {elt tg iter : Expr} {ifs : List Expr} {scope : Scope} {own : List (Str × Nat)} {spos : Pos} {b : Bool} {src : Rho → Option (List D)} {is vs : List Nat} {t : Tgt} {c : Rho → Option Bool} {e : Rho → Option D} (i : Nat) (hc : X.calm = true) (hN : X.N.Nodup) (hy : X.N[i]? = some y) (hyl : X.env.scope.names.lookup y = some .local)
    (hsw : swapsWith (.ListComp elt [⟨tg, iter, ifs, 0⟩] scope pos) (some (.Name y py)) spos.line X.env = pure true) (hi : IE X tg iter b src) (ok : BlkOk X.N X.env.scope scope own)
    (hg : ∀ (s : Shared) (H : Hp) (C : Addr) (cl : List (Str × Addr)) (fp : List Addr), GE (X.blk s H scope (compEnvC scope cl C X.env) fp) tg is t) (ht : ∀ (s : Shared) (H : Hp) (C : Addr) (cl : List (Str × Addr)) (fp : List Addr), IFs (X.blk s H scope (compEnvC scope cl C X.env) fp) ifs c)
    (he : ∀ (s : Shared) (H : Hp) (C : Addr) (cl : List (Str × Addr)) (fp : List Addr), FE (X.blk s H scope (compEnvC scope cl C X.env) fp) elt e) (hvs : own.map (·.2) = vs := by rfl) (hv : ∀ i ∈ is, i ∈ vs := by decide) (hs : ∀ x, foldedSetIterable iter X.env x = pure x := by intro _; rfl) :
    SE X H0 (.Assign [.Name y py] (.ListComp elt [⟨tg, iter, ifs, 0⟩] scope pos) spos) (gSet i (fComp src vs t c e)) := by
  subst hvs
  refine PS.weak (ps_setLc (g := tT X.K is t) (tt := tB X.K c) (te := tF X.K e) hc hN hy hyl hsw hi ok hg ht he hs) fun E σ H h => ?_
  exact tlc_of hv (tset_of h)
/-- a list of its own is left alone from here on -/
def gIce (i : Nat) (g : Rho → Option Fl) : Rho → Option Fl := fun ρ => match ρ[i]? with
  | some (some (.opn ds)) => g (ρ.set i (some (.lst ds)))
  | _ => none
theorem se_ice (i : Nat) (h : SE X H0 st g) : SE X H0 st (gIce i g) := by
  refine ⟨fun pins s σ H E I ⟨ρ, fl, er, hf, k⟩ => ?_⟩
  unfold gIce at hf
  split at hf
  · rename_i ds hi
    obtain ⟨v, hv, a, vs, rfl, hH, hr⟩ := er.slot i _ hi
    obtain ⟨od, I2⟩ := I.lock hH trivial
    have ext : Ext H (upd H a (.frz od (.lst vs))) := Ext.updO (.inl (by rw [hH]; trivial))
    exact h.run pins s σ _ E I2 ⟨_, fl, er.ice hi hv hH, hf, k.ext ext⟩
  · cases hf
/-- .. where a def's mirror just freezes what is assigned -/
def gRet (f : Rho → Option D) : Rho → Option Fl := fun ρ => (f ρ).map .rt
theorem se_ret (he : ME X e f) : SE X H0 (.Return (some e) pos) (gRet f) := PS.weak (ps_ret he) fun E σ H ⟨ρ, fl, er, hf, k⟩ => by
  obtain ⟨d, h1, rfl⟩ := Option.map_eq_some_iff.mp hf
  exact ⟨ρ, d, er.toER, h1, fun v H' s r => k v H' (er.sm.trans s) (r.back er.sm)⟩
def gRetN : Rho → Option Fl := fun _ => some (.rt .non)
theorem se_retN : SE X H0 (.Return none pos) gRetN := PS.weak ps_retN fun E σ H ⟨ρ, fl, er, hf, k⟩ => by
  cases hf
  exact k .non H er.sm (.of repF_non)
/-- return of a list of its own -/
def gRetV (i : Nat) : Rho → Option Fl := fun ρ => match ρ[i]? with
  | some (some (.opn ds)) => some (.rt (.opn ds))
  | _ => none
theorem se_retV {x : Str} {pos' : Pos} (i : Nat) (hN : X.N[i]? = some x) (hv : Vis X.env.scope x) (hd : (x == ("__debug__" : Str)) = false := by decide) (hcd : (x == ("__classdict__" : Str)) = false := by decide) : SE X H0 (.Return (some (.Name x pos')) pos) (gRetV i) :=
  PS.weak (ps_ret (pe_var hN hv hd hcd)) fun E σ H ⟨ρ, fl, er, hf, k⟩ => by
    unfold gRetV at hf
    split at hf
    · rename_i ds hi
      cases hf
      obtain ⟨v, hv, a, vs, rfl, hH, hr⟩ := er.slot i _ hi
      exact ⟨_, hv, k _ H er.sm ⟨a, vs, rfl, er.fresh i ds a hi hv, hH, hr⟩⟩
    · cases hf
def gIf (c : Rho → Option Bool) (g1 g2 : Rho → Option Fl) : Rho → Option Fl := fun ρ => (c ρ).bind fun k => if k = true then g1 ρ else g2 ρ
theorem se_if {cx : Expr} {c : Rho → Option Bool} {s1 s2 : List Stmt} (hc : BE X cx c) (h1 : SEs X H0 s1 g1) (h2 : SEs X H0 s2 g2) : SE X H0 (.If cx s1 s2 pos) (gIf c g1 g2) :=
  PS.weak (ps_if hc h1 h2) fun E σ H ⟨ρ, fl, er, hf, k⟩ => by
    obtain ⟨b, h3, h4⟩ := Option.bind_eq_some_iff.mp hf
    refine ⟨ρ, b, er.toER, h3, fun H1 s1 => ?_⟩
    cases b with
    | true => exact ⟨ρ, fl, er.same s1, by simpa using h4, k.ext (Ext.of s1)⟩
    | false => exact ⟨ρ, fl, er.same s1, by simpa using h4, k.ext (Ext.of s1)⟩
/-- a, b = e -/
def gAsg (t : Tgt) (f : Rho → Option D) : Rho → Option Fl := fun ρ => (f ρ).bind fun d => (t d ρ).map .nx
theorem se_asg {tg : Expr} {is : List Nat} {t : Tgt} (he : FE X e f) (hg : GE X tg is t) (hs : swapsWithSole [tg] e pos.line X.env = pure false := by rfl) (hw : swappedStores [tg] e X.env = pure none := by rfl)
    (h1 : (assignEach [tg] X.env).map (·.2) = [assign tg X.env] := by rfl) : SE X H0 (.Assign [tg] e pos) (gAsg t f) := PS.weak (ps_asg he hg hs hw h1) fun E σ H ⟨ρ, fl, er, hf, k⟩ => by
  obtain ⟨d, h3, h4⟩ := Option.bind_eq_some_iff.mp hf
  obtain ⟨ρ', h5, rfl⟩ := Option.map_eq_some_iff.mp h4
  exact ⟨ρ, d, er.toER, h3, fun v H1 s1 r1 => ⟨ρ, d, ρ', (er.same s1).toER, r1, h5, fun σ' H' s' st => k _ H' (Ext.of (s1.trans s')) (st.ers (er.same (s1.trans s')))⟩⟩
/-- a, b = e1, e2 -/
def gPar2 (i j : Nat) (fa fb : Rho → Option D) : Rho → Option Fl := fun ρ => (fa ρ).bind fun x => (fb ρ).map fun y => .nx ((ρ.set i (some x)).set j (some y))
theorem se_par2 {x y : Str} {px py pt : Pos} {kt k2 pt2} (i j : Nat) (hc : X.calm = true) (hN : X.N.Nodup) (hi : X.N[i]? = some x) (hj : X.N[j]? = some y) (hij : i ≠ j)
    (hx : X.env.scope.names.lookup x = some .local) (hy : X.env.scope.names.lookup y = some .local) (ha : ME X a fa) (hb : ME X b fb)
    (hw : swappedStores [.Tuple [.Name x px, .Name y py] kt pt] (.Tuple [a, b] k2 pt2) X.env = pure (some [x, y]))
    (hs : swapsWithSole [.Tuple [.Name x px, .Name y py] kt pt] (.Tuple [a, b] k2 pt2) pos.line X.env = pure false := by rfl)
    (hs1 : starEach [a, b] X.env = (false, eval a X.env) :: starEach [b] X.env := by rfl) (hs2 : starEach [b] X.env = (false, eval b X.env) :: starEach [] X.env := by rfl) :
    SE X H0 (.Assign [.Tuple [.Name x px, .Name y py] kt pt] (.Tuple [a, b] k2 pt2) pos) (gPar2 i j fa fb) :=
  PS.weak (ps_par hc hN hi hj hij hx hy (pa_cons ha (pa_cons hb pa_nil hs2) hs1) hw hs) fun E σ H ⟨ρ, fl, er, hf, k⟩ => by
    obtain ⟨d1, h3, h4⟩ := Option.bind_eq_some_iff.mp hf
    obtain ⟨d2, h5, rfl⟩ := Option.map_eq_some_iff.mp h4
    exact ⟨ρ, d1, er.toER, h3, fun v H1 s1 r1 => ⟨ρ, d2, (er.same s1).toER, h5, fun u H2 s2 r2 => ⟨v, u, rfl, k _ H2 (Ext.of (s1.trans s2)) ((er.set s1 r1).set s2 r2)⟩⟩⟩
def gPar3 (i j l : Nat) (fa fb fc : Rho → Option D) : Rho → Option Fl := fun ρ => (fa ρ).bind fun x => (fb ρ).bind fun y => (fc ρ).map fun z => .nx (((ρ.set i (some x)).set j (some y)).set l (some z))
theorem se_par3 {x y z : Str} {px py pz pt : Pos} {kt k2 pt2} (i j l : Nat) (hc : X.calm = true) (hN : X.N.Nodup) (hi : X.N[i]? = some x) (hj : X.N[j]? = some y) (hl : X.N[l]? = some z) (hij : i ≠ j) (hil : i ≠ l) (hjl : j ≠ l)
    (hx : X.env.scope.names.lookup x = some .local) (hy : X.env.scope.names.lookup y = some .local) (hz : X.env.scope.names.lookup z = some .local) (ha : ME X a fa) (hb : ME X b fb) (hcc : ME X c fc)
    (hw : swappedStores [.Tuple [.Name x px, .Name y py, .Name z pz] kt pt] (.Tuple [a, b, c] k2 pt2) X.env = pure (some [x, y, z]))
    (hs : swapsWithSole [.Tuple [.Name x px, .Name y py, .Name z pz] kt pt] (.Tuple [a, b, c] k2 pt2) pos.line X.env = pure false := by rfl)
    (hs1 : starEach [a, b, c] X.env = (false, eval a X.env) :: starEach [b, c] X.env := by rfl) (hs2 : starEach [b, c] X.env = (false, eval b X.env) :: starEach [c] X.env := by rfl) (hs3 : starEach [c] X.env = (false, eval c X.env) :: starEach [] X.env := by rfl) :
    SE X H0 (.Assign [.Tuple [.Name x px, .Name y py, .Name z pz] kt pt] (.Tuple [a, b, c] k2 pt2) pos) (gPar3 i j l fa fb fc) :=
  PS.weak (ps_par3 hc hN hi hj hl hij hil hjl hx hy hz (pa_cons ha (pa_cons hb (pa_cons hcc pa_nil hs3) hs2) hs1) hw hs) fun E σ H ⟨ρ, fl, er, hf, k⟩ => by
    obtain ⟨d1, h3, h4⟩ := Option.bind_eq_some_iff.mp hf
    obtain ⟨d2, h5, h6⟩ := Option.bind_eq_some_iff.mp h4
    obtain ⟨d3, h7, rfl⟩ := Option.map_eq_some_iff.mp h6
    exact ⟨ρ, d1, er.toER, h3, fun v H1 s1 r1 => ⟨ρ, d2, (er.same s1).toER, h5, fun u H2 s2 r2 => ⟨ρ, d3, ((er.same s1).same s2).toER, h7, fun w H3 s3 r3 =>
      ⟨v, u, w, rfl, k _ H3 (Ext.of ((s1.trans s2).trans s3)) (((er.set s1 r1).set s2 r2).set s3 r3)⟩⟩⟩⟩
/-- x += e, ints -/
def gAug (i : Nat) (f : Rho → Option D) : Rho → Option Fl := fun ρ => match ρ[i]?, f ρ with
  | some (some (.int a)), some (.int b) => some (.nx (ρ.set i (some (.int (a + b)))))
  | _, _ => none
theorem se_aug {x : Str} {pos' : Pos} (i : Nat) (hN : X.N.Nodup) (hi : X.N[i]? = some x) (hx : Loc X.env.scope x) (he : FE X e f) (hf : X.fn x = true ∨ X.env.scope.names.lookup x = some .local) :
    SE X H0 (.AugAssign (.Name x pos') .Add e pos) (gAug i f) := PS.weak (ps_aug hN hi hx he ip_add hf) fun E σ H ⟨ρ, fl, er, hf, k⟩ => by
  unfold gAug at hf
  split at hf
  · rename_i a b hi hb
    cases hf
    obtain ⟨v, hv, r⟩ := er.slot i _ hi
    have rv : v = .int a := by
      have r : RepF X.K H (.int a) v := r
      simpa only [RepF] using r
    subst rv
    refine ⟨_, hv, ρ, _, er.toER, hb, fun u H1 s1 r1 => ⟨a, b, rfl, ?_, ?_⟩⟩
    · simpa only [RepF] using r1
    · exact k _ H1 (Ext.of s1) (er.set s1 (.of repF_int))
  · cases hf
/-- x.append(e) -/
def gApp (i : Nat) (f : Rho → Option D) : Rho → Option Fl := fun ρ => (f ρ).bind fun d => match ρ[i]? with
  | some (some (.opn ds)) => if ds.length < 16777216 then some (.nx (ρ.set i (some (.opn (ds ++ [d]))))) else none
  | _ => none
theorem se_app {x : Str} {px apos cpos : Pos} (i : Nat) (hN : X.N[i]? = some x) (hv : Vis X.env.scope x) (he : FE X e f) (hd : (x == ("__debug__" : Str)) = false := by decide) (hcd : (x == ("__classdict__" : Str)) = false := by decide)
    (hbase : attributeBase (.Name x px) "append" X.env (eval (.Name x px) X.env) = eval (.Name x px) X.env := by rfl)
    (hfew : ((backTo cpos (starEach [e] X.env)).all (fun x => !x.1) && (backToKw cpos (keywordEach [] X.env)).all (fun x => x.1.isSome)
      && decide ([e].length + ([] : List Keyword).length + (if ([] : List Keyword).isEmpty then 0 else 1) < 30)) = true := by rfl)
    (hline : (apos.endLine == cpos.line) = true := by rfl) (hs : starEach [e] X.env = (false, eval e X.env) :: starEach [] X.env := by rfl) (hplain : (backTo cpos (starEach [] X.env)).any (·.1) = false := by rfl)
    (hsw : swapsWith (.Call (.Attribute (.Name x px) "append" apos) [e] [] cpos) none pos.line X.env = pure false := by rfl) :
    SE X H0 (.Expr (.Call (.Attribute (.Name x px) "append" apos) [e] [] cpos) pos) (gApp i f) :=
  PS.weak (ps_expr (pe_bm PySem.F.plainAttrs_list PySem.F.slot_list_append PySem.F.type_list_append mt_append (pe_var hN hv hd hcd) (pa_cons he pa_nil hs) hbase hfew hline hs hplain) hsw) fun E σ H ⟨ρ, fl, er, hf, k⟩ => by
    obtain ⟨d, h1, h2⟩ := Option.bind_eq_some_iff.mp hf
    split at h2
    · rename_i ds hi
      split at h2 <;> cases h2
      rename_i hl
      obtain ⟨v, hv, a, vs, rfl, hH, hr⟩ := er.slot i _ hi
      refine ⟨_, hv, .inl ⟨rfl, _, .inl (.inl hH)⟩, ρ, d, er.toER, h1, fun u H1 s1 r1 => ?_⟩
      have hH1 := s1 _ _ hH
      refine ⟨a, vs, u, rfl, rfl, hH1, by rw [hr.length, sizeLine_eq]; exact hl, ?_⟩
      obtain ⟨er', ext⟩ := (er.same s1).put hi hv ((hr.ext (Ext.of s1)).append (RepL.one r1))
      exact k _ _ ((Ext.of s1).trans ext) er'
    · cases h2
/-- x[i] = e, x a list of its own -/
def gSetIx (i : Nat) (fi fe : Rho → Option D) : Rho → Option Fl := fun ρ => (fe ρ).bind fun d => (fi ρ).bind fun y => match y, ρ[i]? with
  | .int j, some (some (.opn ds)) => (ixN ds.length j).map fun n => .nx (ρ.set i (some (.opn (ds.set n d))))
  | _, _ => none
theorem se_setix {x : Str} {px spos : Pos} (i : Nat) (hN : X.N[i]? = some x) (hv : Vis X.env.scope x) (hi : FE X a fa) (he : FE X e f) (hd : (x == ("__debug__" : Str)) = false := by decide) (hcd : (x == ("__classdict__" : Str)) = false := by decide)
    (ha : ∀ v, assign (.Subscript (.Name x px) a spos) X.env v = (do
      let ov ← holding [v] (eval (.Name x px) X.env)
      let iv ← holding [v, ov] (eval a X.env)
      standAt spos
      holding [v, ov, iv] (setItem ov iv v)
      release [v, ov, iv] []) := by intro _; rfl)
    (hs : swapsWithSole [.Subscript (.Name x px) a spos] e pos.line X.env = pure false := by rfl) (hw : swappedStores [.Subscript (.Name x px) a spos] e X.env = pure none := by rfl)
    (h1 : (assignEach [.Subscript (.Name x px) a spos] X.env).map (·.2) = [assign (.Subscript (.Name x px) a spos) X.env] := by rfl) : SE X H0 (.Assign [.Subscript (.Name x px) a spos] e pos) (gSetIx i fa f) :=
  PS.weak (ps_asg he (pg_sub (pe_var hN hv hd hcd) hi set_list ha) hs hw h1) fun E σ H ⟨ρ, fl, er, hf, k⟩ => by
    obtain ⟨d, h2, h3⟩ := Option.bind_eq_some_iff.mp hf
    obtain ⟨y, h4, h5⟩ := Option.bind_eq_some_iff.mp h3
    split at h5
    · rename_i j ds hi
      obtain ⟨n, h6, rfl⟩ := Option.map_eq_some_iff.mp h5
      obtain ⟨v, hv, b, vs, rfl, hH, hr⟩ := er.slot i _ hi
      refine ⟨ρ, d, er.toER, h2, fun u H1 s1 r1 => ⟨_, hv, ρ, _, (er.same s1).toER, h4, fun w H2 s2 r2 => ?_⟩⟩
      have hj : w = .int j := by simpa only [RepF] using r2
      subst hj
      have s12 := s1.trans s2
      refine ⟨b, vs, j, n, rfl, rfl, s12 _ _ hH, by rw [hr.length]; exact h6, ?_⟩
      obtain ⟨er', ext⟩ := (er.same s12).put hi hv ((hr.ext (Ext.of s12)).set n (r1.ext (Ext.of s2)))
      exact k _ _ ((Ext.of s12).trans ext) er'
    · cases h5

/-! ### loops -/
def forGo (t : Tgt) (b : Rho → Option Fl) : List D → Rho → Option Fl
  | [], ρ => some (.nx ρ)
  | d :: r, ρ => (t d ρ).bind fun ρ1 => (b ρ1).bind fun fl => match fl with
    | .nx ρ2 => forGo t b r ρ2
    | .ct ρ2 => forGo t b r ρ2
    | .bk ρ2 => some (.nx ρ2)
    | .rt d => some (.rt d)
def gFor (src : Rho → Option (List D)) (t : Tgt) (b : Rho → Option Fl) : Rho → Option Fl := fun ρ => (src ρ).bind fun l => forGo t b l ρ
theorem se_for {tg iter : Expr} {body : List Stmt} {src : Rho → Option (List D)} {is : List Nat} {t : Tgt} (hp : PassesOwn (model X.prog X.w) X.A X.env X.xe) (hc : X.calm = true) (hi : IE X tg iter true src) (hg : GE X tg is t) (hb : SEs X H0 body g)
    (hs : ∀ x, foldedSetIterable iter X.env x = pure x := by intro _; rfl) : SE X H0 (.For tg iter body [] pos) (gFor src t g) := PS.weak (ps_for hp hc hi hg hb hs) fun E σ H ⟨ρ, fl, er, hf, k⟩ => by
  obtain ⟨l, h1, h2⟩ := Option.bind_eq_some_iff.mp hf
  refine ⟨ρ, l, er.toER, h1, fun J H1 S s1 w hS hE => ?_⟩
  have noS := hE rfl
  refine ⟨fun i m σ2 H2 => m = l.length - i ∧ i ≤ l.length ∧ ∃ ρ2, ERS X.K H0 H2 σ2 ρ2 ∧ Ext H1 H2 ∧ forGo t g (l.drop i) ρ2 = some fl, ⟨l.length, by simp, Nat.zero_le _, ρ, er.same s1, Ext.refl _, by simpa using h2⟩, ?_⟩
  rintro i m σ2 H2 ⟨rfl, hi, ρ2, er2, ext, hgo⟩
  by_cases hlt : i < l.length
  · refine .inr ⟨w.go i H2 hlt ext (fun a ha => (noS a ha).elim), _, fun σ' H' n => ⟨l.length - (i + 1), by omega, rfl, hlt, n⟩, fun x H3 y => ?_⟩
    have hd : l[i]? = some l[i] := List.getElem?_eq_getElem hlt
    obtain ⟨s3, r3⟩ := w.yld i H2 x H3 l[i] hd ext (fun a ha => (noS a ha).elim) y
    have e1 : l.drop i = l[i] :: l.drop (i + 1) := List.drop_eq_getElem_cons hlt
    rw [e1] at hgo
    simp only [forGo] at hgo
    obtain ⟨ρ3, t1, h3⟩ := Option.bind_eq_some_iff.mp hgo
    obtain ⟨fl3, t2, h4⟩ := Option.bind_eq_some_iff.mp h3
    refine ⟨ρ2, l[i], ρ3, (er2.same s3).toER, r3, t1, fun σ4 H4 s4 st => ?_⟩
    have s24 := s3.trans s4
    have ext4 := ext.trans (Ext.of s24)
    refine ⟨ρ3, fl3, st.ers (er2.same s24), t2, ?_⟩
    cases fl3 with
    | nx ρ5 => exact fun σ5 H5 e5 r5 => ⟨ρ5, r5, ext4.trans e5, h4⟩
    | ct ρ5 => exact fun σ5 H5 e5 r5 => ⟨ρ5, r5, ext4.trans e5, h4⟩
    | bk ρ5 =>
      cases h4
      exact fun σ5 H5 e5 r5 => k σ5 H5 (((Ext.of s1).trans ext4).trans e5) r5
    | rt d =>
      cases h4
      exact k
  · have e : i = l.length := by omega
    subst e
    rw [List.drop_length] at hgo
    cases hgo
    exact .inl ⟨w.stop H2 ext (fun a ha => (noS a ha).elim), k σ2 H2 ((Ext.of s1).trans ext) er2⟩
def whileGo (c : Rho → Option Bool) (b : Rho → Option Fl) : Nat → Rho → Option Fl
  | 0, _ => none
  | n + 1, ρ => (c ρ).bind fun k => if k = true then (b ρ).bind fun fl => match fl with
    | .nx ρ2 => whileGo c b n ρ2
    | .ct ρ2 => whileGo c b n ρ2
    | .bk ρ2 => some (.nx ρ2)
    | .rt d => some (.rt d) else some (.nx ρ)
/-- turns that are always enough -/
def FU : Nat := 1000000000
def gWhile (c : Rho → Option Bool) (b : Rho → Option Fl) : Rho → Option Fl := whileGo c b FU
theorem se_while {cx : Expr} {c : Rho → Option Bool} {body : List Stmt} (hp : PassesOwn (model X.prog X.w) X.A X.env X.xe) (hc : BE X cx c) (hb : SEs X H0 body g) : SE X H0 (.While cx body [] pos) (gWhile c g) :=
  PS.weak (ps_while hp hc hb) fun E σ H ⟨ρ, fl, er, hf, k⟩ => by
    refine ⟨fun m σ2 H2 => ∃ ρ2, ERS X.K H0 H2 σ2 ρ2 ∧ Ext H H2 ∧ whileGo c g m ρ2 = some fl, ⟨FU, ρ, er, Ext.refl _, hf⟩, ?_⟩
    rintro m σ2 H2 ⟨ρ2, er2, ext, hgo⟩
    cases m with
    | zero => simp [whileGo] at hgo
    | succ m =>
      simp only [whileGo] at hgo
      obtain ⟨b, h3, h4⟩ := Option.bind_eq_some_iff.mp hgo
      refine ⟨ρ2, b, er2.toER, h3, fun H3 s3 => ?_⟩
      cases b with
      | false =>
        simp only [Bool.false_eq_true, if_false] at h4 ⊢
        cases h4
        exact k σ2 H3 (ext.trans (Ext.of s3)) (er2.same s3)
      | true =>
        simp only [if_true] at h4 ⊢
        obtain ⟨fl3, t2, h5⟩ := Option.bind_eq_some_iff.mp h4
        refine ⟨_, fun σ' H' n => ⟨m, Nat.lt_succ_self m, n⟩, ρ2, fl3, er2.same s3, t2, ?_⟩
        have ext3 := ext.trans (Ext.of s3)
        cases fl3 with
        | nx ρ5 => exact fun σ5 H5 e5 r5 => ⟨ρ5, r5, ext3.trans e5, h5⟩
        | ct ρ5 => exact fun σ5 H5 e5 r5 => ⟨ρ5, r5, ext3.trans e5, h5⟩
        | bk ρ5 =>
          cases h5
          exact fun σ5 H5 e5 r5 => k σ5 H5 (ext3.trans e5) r5
        | rt d =>
          cases h5
          exact k
end

/-! ### defs -/
def spP (n : Nat) (K : PySem.W.Frag) (F : List D → Option D) : Sp := fun vs H Q _ => ∃ ds d, ds.length = n ∧ RepL K H ds vs ∧ F ds = some d ∧ ∀ v H', Same H H' → RepM K H H' d v → Q v H'
/-- a def's mirror: N slots -/
def runF (N : Nat) (g : Rho → Option Fl) : List D → Option D := fun ds => match g (ds.map some ++ List.replicate (N - ds.length) none) with
  | some (.rt d) => some d
  | some (.nx _) => some .non
  | _ => none
theorem repL_noOpn {K : PySem.W.Frag} {H : Hp} {ds : List D} {vs : List V} (r : RepL K H ds vs) {i : Nat} {xs : List D} (h : ds[i]? = some (.opn xs)) : False := by
  obtain ⟨v, _, r1⟩ := r.get h
  simp only [RepF] at r1
theorem repL_noObj {K : PySem.W.Frag} {H : Hp} {ds : List D} {vs : List V} (r : RepL K H ds vs) {i : Nat} {o : Option Addr} {c : Addr} {xs : List D} (h : ds[i]? = some (.obj o c xs)) : False := by
  obtain ⟨v, _, r1⟩ := r.get h
  simp only [RepF] at r1
theorem ers_start {K : PySem.W.Frag} {H : Hp} {N : List Str} {ds : List D} {vs : List V} (r : RepL K H ds vs) : ERS K H H (start N vs) (ds.map some ++ List.replicate (N.length - ds.length) none) := by
  have at_ : ∀ (i : Nat) (d : D), (ds.map some ++ List.replicate (N.length - ds.length) none)[i]? = some (some d) → ds[i]? = some d := fun i d h => by
    by_cases hi : i < ds.length
    · rw [List.getElem?_append_left (by simpa using hi), List.getElem?_map] at h
      obtain ⟨x, h1, h2⟩ := Option.map_eq_some_iff.mp h
      cases h2
      exact h1
    · rw [List.getElem?_append_right (by simpa using hi)] at h
      have := List.getElem?_eq_some_iff.mp h
      obtain ⟨_, h2⟩ := this
      rw [List.getElem_replicate] at h2
      cases h2
  refine ⟨⟨?_, fun i d h => ?_⟩, Same.refl _, fun i xs a h => (repL_noOpn r (at_ i _ h)).elim, fun i j xs ys a h => (repL_noOpn r (at_ i _ h)).elim, fun i o c xs a h => (repL_noObj r (at_ i _ h)).elim, fun i j o o' c c' xs ys a h => (repL_noObj r (at_ i _ h)).elim⟩
  · unfold L2.start
    simp [r.length]
  · obtain ⟨v, h1, h2⟩ := r.get (at_ i d h)
    refine ⟨v, ?_, .of h2⟩
    unfold L2.start
    have hi : i < vs.length := (List.getElem?_eq_some_iff.mp h1).1
    rw [List.getElem?_append_left (by simpa using hi), List.getElem?_map, h1]
    rfl
theorem fn_pure {P : Program} {w : World} {K : PySem.W.Frag} {mg : Str → Option Value} {base : Heap} {x qual : Str} {st : Stmt} {f : Addr} {fd : FuncData} {N ps : List Str} {k n : Nat} {g : Rho → Option Fl} (F : Fun K x qual st f fd) (S : FnScope N ps (defScope st)) (hn : ps.length = n)
    (h : ∀ (cdv : Value) (A : Around) (outer : List Env) (s : Shared) (H : Hp) (E : XK), Room k (A.deeper (envOfC qual (defScope st) s.heap.objs.size f cdv)) →
      SEs (cxOf CX0 P w K mg base N qual (defScope st) f cdv A outer s H E).nox H (defBody st) g) : FnOk P w K mg base CX0 (k + 1) f fd ps (spP n K (runF N.length g)) := by
  refine F.ok S (fun vs H Q E ⟨ds, d, hl, r, _⟩ => by rw [r.length, hl, hn]) (fun cdv A outer s H vs Q E hr hsp => ⟨_, h cdv A outer s H E hr, ?_⟩)
  obtain ⟨ds, d, hl, r, hF, q⟩ := hsp
  unfold runF at hF
  split at hF
  · rename_i d' hg
    cases hF
    exact ⟨_, _, ers_start r, hg, fun v H' s' r' => q v H' s' r'⟩
  · rename_i ρ hg
    cases hF
    exact ⟨_, _, ers_start r, hg, fun σ' H' e' r' => q .non H' r'.sm (.of repF_non)⟩
  · cases hF
def fCall (n : Nat) (F : List D → Option D) (fs : Rho → Option (List D)) : Rho → Option D := fun ρ => (fs ρ).bind fun ds => if ds.length = n then F ds else none
section
variable {X : Cx} {e : Expr} {es : List Expr} {pos : Pos}
theorem me_call {x : Str} {p : Pos} {k n : Nat} {f : Addr} {fd : FuncData} {ps : List Str} {F : List D → Option D} {fs : Rho → Option (List D)} (G : FnOk X.prog X.w X.K X.mg X.base CX0 k f fd ps (spP n X.K F)) (hr : Room k X.A) (hg : Gl X x) (hm : X.mg x = some (.ref f)) (hk : PySem.W.keepIn X.K (.ref f) = true) (hb : Binds X.K fd ps [])
    (ha : AE X (e :: es) fs) (hdb : (x == ("__debug__" : Str)) = false := by decide) (he : starEach (e :: es) X.env = (false, eval e X.env) :: starEach es X.env := by rfl) (hpl : (backTo pos (starEach es X.env)).any (·.1) = false := by rfl) :
    ME X (.Call (.Name x p) (e :: es) [] pos) (fCall n F fs) := PE.weak (pe_call G hr hg hm hk hb .nil pass0 ha hdb he hpl) fun σ H Q ⟨ρ, d, er, hf, q⟩ => by
  obtain ⟨ds, h1, h2⟩ := Option.bind_eq_some_iff.mp hf
  split at h2
  · rename_i hl
    refine ⟨ρ, ds, er, h1, fun vs H1 s1 r1 => ?_⟩
    show spP n X.K F (vs ++ []) H1 Q E0
    rw [List.append_nil]
    exact ⟨ds, d, hl, r1, h2, fun v H' s' r' => q v H' (s1.trans s') (r'.back s1)⟩
  · cases h2
theorem fe_call {x : Str} {p : Pos} {k n : Nat} {f : Addr} {fd : FuncData} {ps : List Str} {F : List D → Option D} {fs : Rho → Option (List D)} (G : FnOk X.prog X.w X.K X.mg X.base CX0 k f fd ps (spP n X.K F)) (hr : Room k X.A) (hg : Gl X x) (hm : X.mg x = some (.ref f)) (hk : PySem.W.keepIn X.K (.ref f) = true) (hb : Binds X.K fd ps [])
    (ha : AE X (e :: es) fs) (hdb : (x == ("__debug__" : Str)) = false := by decide) (he : starEach (e :: es) X.env = (false, eval e X.env) :: starEach es X.env := by rfl) (hpl : (backTo pos (starEach es X.env)).any (·.1) = false := by rfl) :
    FE X (.Call (.Name x p) (e :: es) [] pos) (fz (fCall n F fs)) := fe_of_me (me_call G hr hg hm hk hb ha hdb he hpl)
end
end PL
/-! ### part PL10 -/
namespace PL
open PySem PySem.Spec PyProof.Rows L2

/-! ### dict comprehensions -/
def putKD (kvs : List (Key × D)) (k : Key) (d : D) : List (Key × D) :=
  if (kvs.any fun kv => decide (kv.1 = k)) = true then kvs.map (fun kv => if kv.1 = k then (kv.1, d) else kv) else kvs ++ [(k, d)]
theorem repK_any {K : PySem.W.Frag} {H : Hp} {k : Key} : ∀ {kvs : List (Key × D)} {ws : List (Key × V)}, RepK K H kvs ws → (ws.any fun kv => decide (kv.1 = k)) = kvs.any fun kv => decide (kv.1 = k)
  | [], ws, h => by simp only [RepK] at h; subst h; rfl
  | (k', d) :: r, ws, h => by
    simp only [RepK] at h
    obtain ⟨v, s, rfl, _, h2⟩ := h
    rw [List.any_cons, List.any_cons, repK_any h2]
theorem repK_map {K : PySem.W.Frag} {H : Hp} {k : Key} {d : D} {v : V} (r : RepF K H d v) : ∀ {kvs : List (Key × D)} {ws : List (Key × V)}, RepK K H kvs ws → RepK K H (kvs.map fun kv => if kv.1 = k then (kv.1, d) else kv) (ws.map fun kv => if kv.1 = k then (kv.1, v) else kv)
  | [], ws, h => by simp only [RepK] at h; subst h; simp only [List.map_nil, RepK]
  | (k', d') :: rr, ws, h => by
    simp only [RepK] at h
    obtain ⟨v', s, rfl, h1, h2⟩ := h
    have ih := repK_map (k := k) r h2
    rw [List.map_cons, List.map_cons]
    by_cases e : k' = k
    · simp only [e, if_true, RepK]; exact ⟨v, _, rfl, r, ih⟩
    · simp only [e, if_false, RepK]; exact ⟨v', _, rfl, h1, ih⟩
theorem repK_app {K : PySem.W.Frag} {H : Hp} {k : Key} {d : D} {v : V} (r : RepF K H d v) : ∀ {kvs : List (Key × D)} {ws : List (Key × V)}, RepK K H kvs ws → RepK K H (kvs ++ [(k, d)]) (ws ++ [(k, v)])
  | [], ws, h => by simp only [RepK] at h; subst h; simp only [List.nil_append, RepK]; exact ⟨v, [], rfl, r, rfl⟩
  | (k', d') :: rr, ws, h => by
    simp only [RepK] at h
    obtain ⟨v', s, rfl, h1, h2⟩ := h
    rw [List.cons_append, List.cons_append]
    simp only [RepK]
    exact ⟨v', _, rfl, h1, repK_app r h2⟩
theorem repK_put {K : PySem.W.Frag} {H : Hp} {k : Key} {d : D} {v : V} {kvs : List (Key × D)} {ws : List (Key × V)} (r : RepF K H d v) (h : RepK K H kvs ws) : RepK K H (putKD kvs k d) (putK ws k v) := by
  unfold putKD putK
  rw [repK_any h]
  split
  · exact repK_map r h
  · exact repK_app r h
theorem repK_len {K : PySem.W.Frag} {H : Hp} : ∀ {kvs : List (Key × D)} {ws : List (Key × V)}, RepK K H kvs ws → ws.length = kvs.length
  | [], ws, h => by simp only [RepK] at h; subst h; rfl
  | (k', d) :: r, ws, h => by
    simp only [RepK] at h
    obtain ⟨v, s, rfl, _, h2⟩ := h
    rw [List.length_cons, List.length_cons, repK_len h2]
theorem putKD_len (kvs : List (Key × D)) (k : Key) (d : D) : (putKD kvs k d).length ≤ kvs.length + 1 := by
  unfold putKD
  split <;> simp
def dcGo (t : Tgt) (c : Rho → Option Bool) (ek ev : Rho → Option D) (ρ : Rho) : List D → List (Key × D) → Option (List (Key × D))
  | [], acc => some acc
  | d :: r, acc => (t d ρ).bind fun ρ1 => (c ρ1).bind fun b => if b = true then (ek ρ1).bind fun y => (keyD y).bind fun k => (ev ρ1).bind fun z => dcGo t c ek ev ρ r (putKD acc k z) else dcGo t c ek ev ρ r acc
def fDcomp (src : Rho → Option (List D)) (vs : List Nat) (t : Tgt) (c : Rho → Option Bool) (ek ev : Rho → Option D) : Rho → Option D := fun ρ => (src ρ).bind fun l => if small l.length then (dcGo t c ek ev (wipeR ρ vs) l []).map .dic else none
/-- the dict as it is made, to be locked -/
theorem tdc_of {K : PySem.W.Frag} {b : Bool} {src : Rho → Option (List D)} {is vs : List Nat} {t : Tgt} {c : Rho → Option Bool} {ek ev : Rho → Option D} (hv : ∀ i ∈ is, i ∈ vs) {σ : L2.St} {H : Hp} {Q : VK} {ρ : Rho} {kvs : List (Key × D)}
    (er : ER K H σ ρ) (hf : fDcomp src vs t c ek ev ρ = some (.dic kvs)) (q : ∀ a ws H', Same H H' → H a = none → H' a = some (.dK ws) → RepK K H' kvs ws → Q (.ref a) H') : tDc (iI K b src) (tT K is t) (tB K c) (tF K ek) (tF K ev) vs σ H Q := by
  obtain ⟨l, h1, h2⟩ := Option.bind_eq_some_iff.mp hf
  split at h2
  · rename_i hsm
    obtain ⟨out, h3, h3'⟩ := Option.map_eq_some_iff.mp h2
    cases h3'
    refine ⟨ρ, l, er, h1, fun J H1 S s1 w hS _ D hD => ?_⟩
    have hl := small_le hsm
    refine ⟨fun i m H2 => m = l.length - i ∧ i ≤ l.length ∧ ∃ acc ws, dcGo t c ek ev (wipeR ρ vs) (l.drop i) acc = some kvs ∧ H2 D = some (.dK ws) ∧ RepK K H2 acc ws ∧ acc.length ≤ i ∧ Same H1 H2,
      ⟨l.length, by simp, Nat.zero_le _, [], [], by simpa using h3, upd_same, by simp only [RepK], Nat.le_refl _, same_new hD⟩, ?_⟩
    rintro i m H2 ⟨rfl, hi, acc, ws, g1, g3, g4, g5, g6⟩
    have kS : ∀ a, S a → H2 a = H1 a := fun a ha => by
      obtain ⟨xs, hx⟩ := hS a ha
      rw [hx, g6 a _ hx]
    by_cases hlt : i < l.length
    · refine .inr ⟨w.go i H2 hlt (Ext.of g6) kS, _, fun H' n => ⟨l.length - (i + 1), by omega, rfl, hlt, n⟩, fun x H3 y => ?_⟩
      have hd : l[i]? = some l[i] := List.getElem?_eq_getElem hlt
      obtain ⟨s3, r3⟩ := w.yld i H2 x H3 l[i] hd (Ext.of g6) kS y
      have e1 : l.drop i = l[i] :: l.drop (i + 1) := List.drop_eq_getElem_cons hlt
      rw [e1] at g1
      simp only [dcGo] at g1
      obtain ⟨ρ1, t1, g1a⟩ := Option.bind_eq_some_iff.mp g1
      obtain ⟨bb, t2, g1b⟩ := Option.bind_eq_some_iff.mp g1a
      have er3 : ER K H3 (wipe σ vs) (wipeR ρ vs) := er_wipe (er.same ((s1.trans g6).trans s3)) vs
      refine ⟨wipeR ρ vs, l[i], ρ1, er3, r3, t1, fun σ4 H4 s4 st => ⟨?_, ?_⟩⟩
      · rw [st.wipe hv, wipe_wipe]
      refine ⟨ρ1, bb, st.er (er3.same s4), t2, fun H5 s5 => ?_⟩
      cases bb with
      | false =>
        simp only [Bool.false_eq_true, if_false] at g1b ⊢
        have s25 := (s3.trans s4).trans s5
        exact ⟨acc, ws, g1b, s25 _ _ g3, RepK.ext (Ext.of s25) _ _ g4, by omega, g6.trans s25⟩
      | true =>
        simp only [if_true] at g1b ⊢
        obtain ⟨y1, t3, g1c⟩ := Option.bind_eq_some_iff.mp g1b
        obtain ⟨k, t4, g1d⟩ := Option.bind_eq_some_iff.mp g1c
        obtain ⟨z1, t5, g1e⟩ := Option.bind_eq_some_iff.mp g1d
        have er5 := (st.er (er3.same s4)).same s5
        refine ⟨ρ1, y1, er5, t3, fun v H6 s6 r6 => ⟨ρ1, z1, er5.same s6, t5, fun u H7 s7 r7 => ?_⟩⟩
        have s27 := (((s3.trans s4).trans s5).trans s6).trans s7
        have g37 := s27 _ _ g3
        have ext : Ext H7 (upd H7 D (.dK (putK ws k u))) := Ext.updO (.inl (by rw [g37]; trivial))
        have lw := repK_len g4
        refine ⟨ws, k, keyD_rep (RepW.of r6) t4, g37, by omega, putKD acc k z1, putK ws k u, g1e, upd_same, ?_, ?_, same_new2 (g6.trans s27) hD⟩
        · exact RepK.ext ext _ _ (repK_put r7 (RepK.ext (Ext.of s27) _ _ g4))
        · have := putKD_len acc k z1; omega
    · have e : i = l.length := by omega
      subst e
      rw [List.drop_length] at g1
      simp only [dcGo] at g1
      cases g1
      exact .inl ⟨w.stop H2 (Ext.of g6) kS, q D ws H2 (s1.trans g6) (s1.free hD) g3 g4⟩
  · cases h2
theorem fDcomp_dic {src : Rho → Option (List D)} {vs : List Nat} {t : Tgt} {c : Rho → Option Bool} {ek ev : Rho → Option D} {ρ : Rho} {d : D} (h : fDcomp src vs t c ek ev ρ = some d) : ∃ kvs, d = .dic kvs := by
  obtain ⟨l, h1, h2⟩ := Option.bind_eq_some_iff.mp h
  split at h2
  · obtain ⟨out, _, h3⟩ := Option.map_eq_some_iff.mp h2
    exact ⟨out, h3.symm⟩
  · cases h2
section
variable {X : Cx}
/-- name = {..} on one line, the name a local (as ps_setLc) -/
theorem se_setDc {H0 : Hp} {y : Str} {py : Pos} {kx vx tg iter : Expr} {ifs : List Expr} {scope : Scope} {own : List (Str × Nat)} {pos spos : Pos} {b : Bool} {src : Rho → Option (List D)} {is vs : List Nat} {t : Tgt} {c : Rho → Option Bool} {ek ev : Rho → Option D} (i : Nat) (hc : X.calm = true) (hN : X.N.Nodup) (hy : X.N[i]? = some y) (hyl : X.env.scope.names.lookup y = some .local)
    (hsw : swapsWith (.DictComp kx vx [⟨tg, iter, ifs, 0⟩] scope pos) (some (.Name y py)) spos.line X.env = pure true) (hi : IE X tg iter b src) (ok : BlkOk X.N X.env.scope scope own)
    (hg : ∀ (s : Shared) (H : Hp) (C : Addr) (cl : List (Str × Addr)) (fp : List Addr), GE (X.blk s H scope (compEnvC scope cl C X.env) fp) tg is t) (ht : ∀ (s : Shared) (H : Hp) (C : Addr) (cl : List (Str × Addr)) (fp : List Addr), IFs (X.blk s H scope (compEnvC scope cl C X.env) fp) ifs c)
    (hk : ∀ (s : Shared) (H : Hp) (C : Addr) (cl : List (Str × Addr)) (fp : List Addr), FE (X.blk s H scope (compEnvC scope cl C X.env) fp) kx ek)
    (he : ∀ (s : Shared) (H : Hp) (C : Addr) (cl : List (Str × Addr)) (fp : List Addr), FE (X.blk s H scope (compEnvC scope cl C X.env) fp) vx ev) (hvs : own.map (·.2) = vs := by rfl) (hv : ∀ i ∈ is, i ∈ vs := by decide) (hs : ∀ x, foldedSetIterable iter X.env x = pure x := by intro _; rfl) :
    SE X H0 (.Assign [.Name y py] (.DictComp kx vx [⟨tg, iter, ifs, 0⟩] scope pos) spos) (gSet i (fDcomp src vs t c ek ev)) := by
  subst hvs
  refine ⟨fun pins s σ H E I ⟨ρ, fl, er, hf, kk⟩ => ?_⟩
  obtain ⟨d, hd, rfl⟩ := Option.map_eq_some_iff.mp hf
  obtain ⟨kvs, rfl⟩ := fDcomp_dic hd
  rw [exec_Assign_Name_used _ _ _ _ hsw]
  refine wpAny_bind (wpAny_standAt (wpAny_bind ?_))
  show wpAny _ X.A (do let _ ← comprehension (.DictComp kx vx [⟨tg, iter, ifs, 0⟩] scope pos) scope X.env (firstIterPos [⟨tg, iter, ifs, 0⟩] pos) newDict false (eval iter X.env) (some (assign (.Name y py) X.env))) _ _ s
  have h : tDc (iI X.K b src) (tT X.K is t) (tB X.K c) (tF X.K ek) (tF X.K ev) (own.map (·.2)) σ H (fun v H' => ∃ a ws, v = .ref a ∧ Same H H' ∧ H a = none ∧ H' a = some (.dK ws) ∧ RepK X.K H' kvs ws) :=
    tdc_of hv er.toER hd fun a ws H' s n g r => ⟨a, ws, rfl, s, n, g, r⟩
  refine wpAny_bind (thn (dc_core (g := tT X.K is t) (tt := tB X.K c) (tk := tF X.K ek) (tv := tF X.K ev) (Qf := fun _ s' => SP X pins E .next s') hc hN I hi ok hg ht hk he hs h fun L C s' m H' I' q hn f => ?_) fun _ s' hq => wpAny_pure (wpAny_pure hq))
  show wpAny _ _ (assign (.Name y py) X.env (.ref L)) _ _ _
  refine wpAny_assign_Name (store_ok2 (v := V.ref L) I' hN hy (.inl hyl) rfl (fun s2 I2 ⟨a, sb, ha⟩ => ?_) (.inr hyl))
  obtain ⟨f0, f1, f2, f3, f4, f5⟩ := f
  have haC : C ≠ a := by
    rcases ha with z | z
    · rw [z]; exact f1
    · exact fun e => f4 y a z e.symm
  refine ⟨m, hn.sameBut sb haC, fun h3 sb3 => ?_⟩
  have I3 := I2.turned (t' := s2.toks) (h' := h3) (fun b o hb e => (sb3.2 b hb).trans e) f0 f1 f3 f4 f5
  obtain ⟨a', ws, e1, sm, nn, gg, rr⟩ := q
  cases e1
  obtain ⟨od, I4⟩ := I3.lock gg trivial
  have ext : Ext H' (upd H' L (.frz od (.dK ws))) := Ext.updO (.inl (by rw [gg]; trivial))
  have s2' : Same H (upd H' L (.frz od (.dK ws))) := same_new2 sm nn
  refine ⟨_, _, I4, kk _ _ (Ext.of s2') (er.set s2' ?_)⟩
  show RepF _ _ (.dic kvs) _
  simp only [RepF]
  exact ⟨L, ws, od, rfl, upd_same, RepK.ext ext _ _ rr⟩

/-! ### isinstance -/
def tyD : D → Option String
  | .non => some "NoneType"
  | .bl _ => some "bool"
  | .int _ => some "int"
  | .str _ => some "str"
  | .tup _ => some "tuple"
  | .lst _ => some "list"
  | _ => none
theorem tyX_of {K : PySem.W.Frag} {H : Hp} {d : D} {v : V} {n : String} (r : RepW K H d v) (h : tyD d = some n) : TyX K H v (.type n) := by
  cases d <;> simp only [tyD, reduceCtorEq] at h <;> cases h
  · rw [repW_non r]; exact .base .non
  · rw [repW_bl r]; exact .base (.bl _)
  · rw [repW_int r]; exact .base (.int _)
  · rw [repW_str r]; exact .base (.str _)
  · obtain ⟨a, vs, rfl, ha, _⟩ := repW_tup r
    rcases ha with (ha | ⟨o, ha⟩) | ⟨o, its, n, hk, hc, _⟩
    · exact .base (.tup ha)
    · exact .fTuple ha
    · exact .kTuple hk hc
  · obtain ⟨a, vs, rfl, ha, _⟩ := repW_lst r
    rcases ha with ha | ⟨o, ha⟩
    · exact .base (.lst ha)
    · exact .base (.frz ha)
/-- isinstance(x, T), T one of the six -/
def isT (T : String) : D → Option D := fun d => (tyD d).bind fun n => (kitB n T).map .bl
theorem fe_isi {x : Str} {T : String} {a : Expr} {fa : Rho → Option D} {p p2 pos : Pos} (hg : Gl X "isinstance") (hm : X.mg "isinstance" = none) (hg2 : Gl X x) (hm2 : X.mg x = none) (hv : bootBuiltins x = some (.type T)) (ha : WE X a fa)
    (hn : x ≠ "__name__" := by decide) (hdb : (x == ("__debug__" : Str)) = false := by decide)
    (hs1 : starEach [a, .Name x p2] X.env = (false, eval a X.env) :: starEach [.Name x p2] X.env := by rfl) (hs2 : starEach [.Name x p2] X.env = (false, eval (.Name x p2) X.env) :: starEach [] X.env := by rfl) (hpl : (backTo pos (starEach [.Name x p2] X.env)).any (·.1) = false := by rfl) :
    FE X (.Call (.Name "isinstance" p) [a, .Name x p2] [] pos) (u1 (isT T) fa) :=
  PE.weak (pe_callB call_isi hg hm (by decide +kernel) (pa_cons ha (pa_cons (pe_bltn (v := .ty T) hg2 hm2 hv rfl hn hdb) pa_nil hs2) hs1) (by decide) (by decide) hs1 hpl) fun σ H Q ⟨ρ, d, er, hf, q⟩ => by
    obtain ⟨y, h1, h2⟩ := Option.bind_eq_some_iff.mp hf
    obtain ⟨n, h3, h4⟩ := Option.bind_eq_some_iff.mp h2
    obtain ⟨b, h5, rfl⟩ := Option.map_eq_some_iff.mp h4
    exact ⟨ρ, y, er, h1, fun v H1 s1 r1 => ⟨v, .ty T, _, _, b, rfl, .ty T, tyX_of r1 h3, kit_ty h5, q _ H1 s1 repF_bl⟩⟩
end
end PL
/-! ### part PL11 -/
namespace PL
open PySem PySem.Spec PyProof.Rows L2

/-! ### short words for printed proofs -/
def visB (sc : Scope) (x : Str) : Bool := match sc.names.lookup x with
  | some .local => true
  | some .cell => true
  | some .free => true
  | _ => false
def locB (sc : Scope) (x : Str) : Bool := match sc.names.lookup x with
  | some .local => true
  | some .cell => true
  | _ => false
theorem vis_of {sc : Scope} {x : Str} (h : visB sc x = true) : Vis sc x := by
  unfold visB at h
  split at h
  · exact .inl (by assumption)
  · exact .inr (.inl (by assumption))
  · exact .inr (.inr (by assumption))
  · cases h
theorem loc_of {sc : Scope} {x : Str} (h : locB sc x = true) : Loc sc x := by
  unfold locB at h
  split at h
  · exact .inl (by assumption)
  · exact .inr (by assumption)
  · cases h
theorem room65 {k : Nat} {A : Around} (h : Room k A) : A.units + 65 < cLine := by have := h.un; omega
section
variable {X : Cx} {pos : Pos} {H0 : Hp} {e : Expr} {f : Rho → Option D}
theorem fv (i : Nat) {x : Str} (hN : X.N[i]? = some x := by rfl) (hv : visB X.env.scope x = true := by rfl) (hd : (x == ("__debug__" : Str)) = false := by rfl) (hcd : (x == ("__classdict__" : Str)) = false := by rfl) : FE X (.Name x pos) (fVar i) := fe_var i hN (vis_of hv) hd hcd
theorem wv (i : Nat) {x : Str} (hN : X.N[i]? = some x := by rfl) (hv : visB X.env.scope x = true := by rfl) (hd : (x == ("__debug__" : Str)) = false := by rfl) (hcd : (x == ("__classdict__" : Str)) = false := by rfl) : WE X (.Name x pos) (fVarW i) := we_var i hN (vis_of hv) hd hcd
/-- a target in a def's body; in a comprehension's block -/
theorem gn (i : Nat) {x : Str} (hN : X.N.Nodup) (hf : X.fn x = true := by rfl) (hi : X.N[i]? = some x := by rfl) (hx : locB X.env.scope x = true := by rfl) : GE X (.Name x pos) [i] (tName i) := ge_name i hN hi (loc_of hx) (.inl hf)
theorem gb (i : Nat) {x : Str} (hN : X.N.Nodup) (hi : X.N[i]? = some x := by rfl) (hx : X.env.scope.names.lookup x = some .local := by rfl) : GE X (.Name x pos) [i] (tName i) := ge_name i hN hi (.inl hx) (.inr hx)
theorem ss {x : Str} {pos' : Pos} (i : Nat) (hN : X.N.Nodup) (he : ME X e f) (hf : X.fn x = true := by rfl) (hi : X.N[i]? = some x := by rfl) (hx : locB X.env.scope x = true := by rfl)
    (hs : swapsWith e (some (.Name x pos')) pos.line X.env = pure false := by rfl) : SE X H0 (.Assign [.Name x pos'] e pos) (gSet i f) := se_set i hN hi (loc_of hx) he (.inl hf) hs
theorem sa {x : Str} {pos' : Pos} (i : Nat) (hN : X.N.Nodup) (he : FE X e f) (hf : X.fn x = true := by rfl) (hi : X.N[i]? = some x := by rfl) (hx : locB X.env.scope x = true := by rfl) :
    SE X H0 (.AugAssign (.Name x pos') .Add e pos) (gAug i f) := se_aug i hN hi (loc_of hx) he (.inl hf)
end
/-- name = [..] on one line, the list left alone from then on -/
theorem se_setLcF {X : Cx} {H0 : Hp} {y : Str} {py : Pos} {elt tg iter : Expr} {ifs : List Expr} {scope : Scope} {own : List (Str × Nat)} {pos spos : Pos} {b : Bool} {src : Rho → Option (List D)} {is vs : List Nat} {t : Tgt} {c : Rho → Option Bool} {e : Rho → Option D} (i : Nat) (hc : X.calm = true) (hN : X.N.Nodup) (hy : X.N[i]? = some y) (hyl : X.env.scope.names.lookup y = some .local)
    (hsw : swapsWith (.ListComp elt [⟨tg, iter, ifs, 0⟩] scope pos) (some (.Name y py)) spos.line X.env = pure true) (hi : IE X tg iter b src) (ok : BlkOk X.N X.env.scope scope own)
    (hg : ∀ (s : Shared) (H : Hp) (C : Addr) (cl : List (Str × Addr)) (fp : List Addr), GE (X.blk s H scope (compEnvC scope cl C X.env) fp) tg is t) (ht : ∀ (s : Shared) (H : Hp) (C : Addr) (cl : List (Str × Addr)) (fp : List Addr), IFs (X.blk s H scope (compEnvC scope cl C X.env) fp) ifs c)
    (he : ∀ (s : Shared) (H : Hp) (C : Addr) (cl : List (Str × Addr)) (fp : List Addr), FE (X.blk s H scope (compEnvC scope cl C X.env) fp) elt e) (hvs : own.map (·.2) = vs := by rfl) (hv : ∀ i ∈ is, i ∈ vs := by decide) (hs : ∀ x, foldedSetIterable iter X.env x = pure x := by intro _; rfl) :
    SE X H0 (.Assign [.Name y py] (.ListComp elt [⟨tg, iter, ifs, 0⟩] scope pos) spos) (gSet i (fz (fComp src vs t c e))) := by
  subst hvs
  refine ⟨fun pins s σ H E I ⟨ρ, fl, er, hf, kk⟩ => ?_⟩
  obtain ⟨d', hd', rfl⟩ := Option.map_eq_some_iff.mp hf
  obtain ⟨d, hd, rfl⟩ := Option.map_eq_some_iff.mp hd'
  rw [exec_Assign_Name_used _ _ _ _ hsw]
  refine wpAny_bind (wpAny_standAt (wpAny_bind ?_))
  show wpAny _ X.A (do let _ ← comprehension (.ListComp elt [⟨tg, iter, ifs, 0⟩] scope pos) scope X.env (firstIterPos [⟨tg, iter, ifs, 0⟩] pos) (newList []) false (eval iter X.env) (some (assign (.Name y py) X.env))) _ _ s
  have h : tLc (iI X.K b src) (tT X.K is t) (tB X.K c) (tF X.K e) (own.map (·.2)) σ H (fun v H' => Same H H' ∧ RepM X.K H H' d v) :=
    tlc_of hv ⟨ρ, d, er.toER, hd, fun v H' s r => ⟨s, r⟩⟩
  refine wpAny_bind (thn (lc_core (g := tT X.K is t) (tt := tB X.K c) (te := tF X.K e) (Qf := fun _ s' => SP X pins E .next s') hc hN I hi ok hg ht he hs h fun L C s' m H' I' q hn f => ?_) fun _ s' hq => wpAny_pure (wpAny_pure hq))
  show wpAny _ _ (assign (.Name y py) X.env (.ref L)) _ _ _
  refine wpAny_assign_Name (store_ok2 (v := V.ref L) I' hN hy (.inl hyl) rfl (fun s2 I2 ⟨a, sb, ha⟩ => ?_) (.inr hyl))
  obtain ⟨f0, f1, f2, f3, f4, f5⟩ := f
  have haC : C ≠ a := by
    rcases ha with z | z
    · rw [z]; exact f1
    · exact fun e => f4 y a z e.symm
  refine ⟨m, hn.sameBut sb haC, fun h3 sb3 => ?_⟩
  have I3 := I2.turned (t' := s2.toks) (h' := h3) (fun b o hb e => (sb3.2 b hb).trans e) f0 f1 f3 f4 f5
  obtain ⟨sm, r⟩ := q
  obtain ⟨l, h1, h2⟩ := Option.bind_eq_some_iff.mp hd
  split at h2
  · obtain ⟨out, h3, rfl⟩ := Option.map_eq_some_iff.mp h2
    obtain ⟨a', ws, e1, nn, gg, rr⟩ := r
    cases e1
    obtain ⟨od, I4⟩ := I3.lock gg trivial
    have ext : Ext H' (upd H' L (.frz od (.lst ws))) := Ext.updO (.inl (by rw [gg]; trivial))
    have s2' : Same H (upd H' L (.frz od (.lst ws))) := same_new2 sm nn
    refine ⟨_, _, I4, kk _ _ (Ext.of s2') (er.set s2' ?_)⟩
    show RepF _ _ (.lst out) _
    simp only [RepF]
    exact ⟨L, ws, od, rfl, upd_same, rr.ext ext⟩
  · cases h2
end PL
/-! ### part PL12 -/
namespace PL
open PySem PySem.Spec PyProof.Rows L2
/-- the script, at the law's entry -/
theorem fzl_of_only {K : PySem.W.Frag} {H : Hp} {a : Addr} {xs : List V} (h : Only H) (s : SqL K H a xs) : FzL K H a xs := by
  rcases s with (s | ⟨o, s⟩) | s
  · rcases h a with n | ⟨o, ys, n⟩
    · rw [s] at n; cases n
    · rw [s] at n; cases n
  · exact .inl ⟨o, s⟩
  · exact .inr s
end PL
/-! ### part PL13 -/
namespace PL
open PySem PySem.Spec PyProof.Rows L2

/-! ### generators: what is out so far stands beside the slots -/
abbrev GFl := Rho → List D → Option (Rho × List D)
def tGn (K : PySem.W.Frag) (H0 : Hp) (g : GFl) : TGn := fun E ys σ H => ∃ ρ ds ρ' ds', ERS K H0 H σ ρ ∧ RepL K H ds ys ∧ g ρ ds = some (ρ', ds') ∧ ∀ ys' σ' H', Ext H H' → ERS K H0 H' σ' ρ' → RepL K H' ds' ys' → E.nx ys' σ' H'
def GSE (X : Cx) (H0 : Hp) (st : Stmt) (g : GFl) : Prop := GS X st (tGn X.K H0 g)
def GSEs (X : Cx) (H0 : Hp) (st : List Stmt) (g : GFl) : Prop := GSs X st (tGn X.K H0 g)
theorem GS.weak {X : Cx} {st : Stmt} {t t' : TGn} (h : GS X st t) (k : ∀ E ys σ H, t' E ys σ H → t E ys σ H) : GS X st t' :=
  ⟨fun A S ip R n ys s₀ c fs K J gd lv s σ H E g hn kk hI ht => h.run A S ip R n ys s₀ c fs K J gd lv s σ H E g hn kk hI (k _ _ _ _ ht)⟩
theorem GSs.weak {X : Cx} {st : List Stmt} {t t' : TGn} (h : GSs X st t) (k : ∀ E ys σ H, t' E ys σ H → t E ys σ H) : GSs X st t' :=
  ⟨fun A S ip R n ys s₀ c fs K J gd lv s σ H E g hn kk hI ht => h.run A S ip R n ys s₀ c fs K J gd lv s σ H E g hn kk hI (k _ _ _ _ ht)⟩
def hNil : GFl := fun ρ ds => some (ρ, ds)
def hSeq (g1 g2 : GFl) : GFl := fun ρ ds => (g1 ρ ds).bind fun p => g2 p.1 p.2
def hPl (g : Rho → Option Fl) : GFl := fun ρ ds => (g ρ).bind fun fl => match fl with
  | .nx ρ' => some (ρ', ds)
  | _ => none
def hYield (f : Rho → Option D) : GFl := fun ρ ds => (f ρ).bind fun d => if small (ds.length + 1) = true then some (ρ, ds ++ [d]) else none
def hWhileGo (c : Rho → Option Bool) (b : GFl) : Nat → GFl
  | 0, _, _ => none
  | n + 1, ρ, ds => (c ρ).bind fun k => if k = true then (b ρ ds).bind fun p => hWhileGo c b n p.1 p.2 else some (ρ, ds)
def hWhile (c : Rho → Option Bool) (b : GFl) : GFl := hWhileGo c b FU
section
variable {X : Cx} {H0 : Hp} {st : Stmt} {sts : List Stmt} {g g1 g2 : GFl} {pos yp : Pos}
theorem hs_nil : GSEs X H0 [] hNil := GSs.weak gss_nil fun E ys σ H ⟨ρ, ds, ρ', ds', er, r, hf, k⟩ => by cases hf; exact k ys σ H (Ext.refl H) er r
theorem hs_cons (h1 : GSE X H0 st g1) (h2 : GSEs X H0 sts g2) : GSEs X H0 (st :: sts) (hSeq g1 g2) := GSs.weak (gss_cons h1 h2) fun E ys σ H ⟨ρ, ds, ρ', ds', er, r, hf, k⟩ => by
  obtain ⟨⟨ρ1, ds1⟩, h3, h4⟩ := Option.bind_eq_some_iff.mp hf
  exact ⟨ρ, ds, ρ1, ds1, er, r, h3, fun ys1 σ1 H1 e1 er1 r1 => ⟨ρ1, ds1, ρ', ds', er1, r1, h4, fun ys2 σ2 H2 e2 er2 r2 => k ys2 σ2 H2 (e1.trans e2) er2 r2⟩⟩
theorem h_pl {gp : Rho → Option Fl} (h : SE X H0 st gp) : GSE X H0 st (hPl gp) := GS.weak (gs_ps h) fun E ys σ H ⟨ρ, ds, ρ', ds', er, r, hf, k⟩ => by
  obtain ⟨fl, h3, h4⟩ := Option.bind_eq_some_iff.mp hf
  cases fl with
  | nx ρ1 =>
    cases h4
    exact ⟨ρ, _, er, h3, fun σ1 H1 e1 er1 => k ys σ1 H1 e1 er1 (RepL.ext e1 _ _ r)⟩
  | rt d => cases h4
  | bk d => cases h4
  | ct d => cases h4
theorem h_yield {e : Expr} {f : Rho → Option D} (h : FE X e f) (hco : X.env.scope.isCoroutine = false := by rfl) (hi : interactive X.env = false := by rfl) : GSE X H0 (.Expr (.Yield (some e) yp) pos) (hYield f) :=
  GS.weak (gs_yield h hco hi) fun E ys σ H ⟨ρ, ds, ρ', ds', er, r, hf, k⟩ => by
    obtain ⟨d, h3, h4⟩ := Option.bind_eq_some_iff.mp hf
    split at h4
    · rename_i hsm
      cases h4
      have hl := r.length
      have := small_le hsm
      refine ⟨by omega, ρ, d, er.toER, h3, fun v H1 s1 r1 => ?_⟩
      exact k _ σ H1 (Ext.of s1) (er.same s1) ((RepL.ext (Ext.of s1) _ _ r).append (RepL.one r1))
    · cases h4
theorem h_while {cx : Expr} {c : Rho → Option Bool} {body : List Stmt} (hp : PassesOwn (model X.prog X.w) X.A X.env X.xe) (hc : BE X cx c) (hb : GSEs X H0 body g) : GSE X H0 (.While cx body [] pos) (hWhile c g) :=
  GS.weak (gs_while hp hc hb) fun E ys σ H ⟨ρ, ds, ρ', ds', er, r, hf, k⟩ => by
    refine ⟨fun m ys2 σ2 H2 => ∃ ρ2 ds2, ERS X.K H0 H2 σ2 ρ2 ∧ RepL X.K H2 ds2 ys2 ∧ Ext H H2 ∧ hWhileGo c g m ρ2 ds2 = some (ρ', ds'), ⟨FU, ρ, ds, er, r, Ext.refl _, hf⟩, ?_⟩
    rintro m ys2 σ2 H2 ⟨ρ2, ds2, er2, r2, ext, hgo⟩
    cases m with
    | zero => simp [hWhileGo] at hgo
    | succ m =>
      simp only [hWhileGo] at hgo
      obtain ⟨b, h3, h4⟩ := Option.bind_eq_some_iff.mp hgo
      refine ⟨ρ2, b, er2.toER, h3, fun H3 s3 => ?_⟩
      cases b with
      | false =>
        simp only [Bool.false_eq_true, if_false] at h4 ⊢
        cases h4
        exact k ys2 σ2 H3 (ext.trans (Ext.of s3)) (er2.same s3) (RepL.ext (Ext.of s3) _ _ r2)
      | true =>
        simp only [if_true] at h4 ⊢
        obtain ⟨⟨ρ5, ds5⟩, t2, h5⟩ := Option.bind_eq_some_iff.mp h4
        exact ⟨_, fun ys' σ' H' n => ⟨m, Nat.lt_succ_self m, n⟩, ρ2, ds2, ρ5, ds5, er2.same s3, RepL.ext (Ext.of s3) _ _ r2, t2, fun ys5 σ5 H5 e5 er5 r5 => ⟨ρ5, ds5, er5, r5, (ext.trans (Ext.of s3)).trans e5, h5⟩⟩
end
/-- what a generator def promises: the list of what it hands out -/
def spG (n : Nat) (K : PySem.W.Frag) (F : List D → Option (List D)) : SpG := fun vs H cont _ => ∃ ds out, ds.length = n ∧ RepL K H ds vs ∧ F ds = some out ∧ ∀ ys H', Same H H' → RepL K H' out ys → cont ys H'
def runG (N : Nat) (g : GFl) : List D → Option (List D) := fun ds => (g (ds.map some ++ List.replicate (N - ds.length) none) []).map (·.2)
theorem gen_pure {P : Program} {w : World} {K : PySem.W.Frag} {mg : Str → Option Value} {base : Heap} {x qual : Str} {st : Stmt} {f : Addr} {fd : FuncData} {N ps : List Str} {k n : Nat} {g : GFl} (F : Fun K x qual st f fd) (S : GScope N ps (defScope st)) (hn : ps.length = n)
    (h : ∀ (cdv : Value) (A : Around) (outer : List Env) (s : Shared) (H : Hp) (E : XK) (pn : List (Addr × Obj)), Room k (A.deeper (envOfC qual (defScope st) s.heap.objs.size f cdv)) →
      GSEs (gcxOf P w K mg base N qual (defScope st) f cdv A outer s H E pn) H (defBody st) g) : GFn P w K mg base (k + 1) f fd ps (spG n K (runG N.length g)) := by
  obtain ⟨oc, od, kV, doc, pm, an, cdv, ct, osl, rfl, lk, hcd⟩ := F.ex
  refine gfn_of lk hcd S (fun vs H Q E ⟨ds, d, hl, r, _⟩ => by rw [r.length, hl, hn]) fun A outer s H vs Q E pn hr hsp => ⟨_, h cdv A outer s H E pn hr, ?_⟩
  obtain ⟨ds, out, hl, r, hF, q⟩ := hsp
  unfold runG at hF
  obtain ⟨⟨ρ', ds'⟩, h1, h2⟩ := Option.map_eq_some_iff.mp hF
  cases h2
  exact ⟨_, [], ρ', _, ers_start r, (by simp only [RepL]), h1, fun ys σ H' e er r' => q ys H' er.sm r'⟩
/-- list(f(..)) of a generator def -/
def fGen (n : Nat) (F : List D → Option (List D)) (fs : Rho → Option (List D)) : Rho → Option D := fun ρ => (fs ρ).bind fun ds => if ds.length = n then (F ds).map .opn else none
theorem me_gen {X : Cx} {e : Expr} {es : List Expr} {pos p p2 pos2 : Pos} {x : Str} {k n : Nat} {f : Addr} {fd : FuncData} {ps : List Str} {F : List D → Option (List D)} {fs : Rho → Option (List D)}
    (G : GFn X.prog X.w X.K X.mg X.base k f fd ps (spG n X.K F)) (hr : Room (k + 3) X.A) (hr0 : Room k X.A) (hgl : Gl X "list") (hml : X.mg "list" = none) (hg : Gl X x) (hm : X.mg x = some (.ref f)) (hk : PySem.W.keepIn X.K (.ref f) = true) (hb : Binds X.K fd ps [])
    (ha : AE X (e :: es) fs) (hdb : (x == ("__debug__" : Str)) = false := by decide) (he : starEach (e :: es) X.env = (false, eval e X.env) :: starEach es X.env := by rfl) (hpl : (backTo pos (starEach es X.env)).any (·.1) = false := by rfl)
    (he2 : starEach [.Call (.Name x p) (e :: es) [] pos] X.env = (false, eval (.Call (.Name x p) (e :: es) [] pos) X.env) :: starEach [] X.env := by rfl) :
    ME X (.Call (.Name "list" p2) [.Call (.Name x p) (e :: es) [] pos] [] pos2) (fGen n F fs) := by
  have h1 := pgen_call (p := p) (E := E0) G hr0 hg hm hk hb .nil ha hdb he hpl
  have h2 := pe_listG (p := p2) (pos := pos2) (nm := "list") h1 (fun pins σ H s e s' I c => by obtain ⟨a, B, H', cls, d, _, _, _, _, _, _, _, z⟩ := c; exact z.elim) (fun cls d H' z => z.elim) hr hgl hml (by decide +kernel) (by decide) (by decide) he2
  refine PE.weak h2 fun σ H Q ⟨ρ, d, er, hf, q⟩ => ?_
  obtain ⟨ds, h3, h4⟩ := Option.bind_eq_some_iff.mp hf
  split at h4
  · rename_i hl
    obtain ⟨out, h5, rfl⟩ := Option.map_eq_some_iff.mp h4
    refine ⟨ρ, ds, er, h3, fun vs H1 s1 r1 => ?_⟩
    show spG n X.K F (vs ++ []) H1 _ E0
    rw [List.append_nil]
    refine ⟨ds, out, hl, r1, h5, fun ys H2 s2 r2 p hp => ?_⟩
    have s3 := same_new (o := .lst ys) hp
    have rm : RepM X.K H2 (upd H2 p (.lst ys)) (.opn out) (.ref p) := ⟨p, ys, rfl, hp, upd_same, RepL.ext (Ext.of s3) _ _ r2⟩
    exact q _ _ ((s1.trans s2).trans s3) (rm.back (s1.trans s2))
  · cases h4
end PL
/-! ### part PL14 -/
namespace SrtO
open PySem PySem.Calls PyProof.Rows Srt
section
variable {prog : Program} {w : World} {A : Around} {E : Value → Shared → Prop} {s : Shared}
theorem collect_tupX {l : Addr} {vs : List Value} {Q : List Value → Shared → Prop} (hl : s.heap.IsTuple l vs.toArray)
    (h : Q vs { s with heap := (s.heap.push (seqObj "list" #[] 0)).update s.heap.objs.size (Obj.mapSeq (· ++ vs.toArray)) }) (hszX : vs.length ≤ sizeLine := by size_fits) :
    wpAny (model prog w) A (collect (.ref l)) Q E s := by
  skip; obtain ⟨o, ho, hc, n, hd⟩ := id hl
  unfold collect
  skip; refine wpAny_bind (wpAny_runValue (codeAny_builtin entry_proto_collect' ?_))
  skip; show wpAny _ _ (do again (.builtin "list.__iadd__" ⟨[← newList [], .ref l], []⟩)) _ _ s
  skip; refine wpAny_bind (wpAny_newList (wpAny_pure ⟨Code.quiet_builtin _ (by decide +kernel), codeAny_builtin entry_list_iadd' ?_⟩))
  skip; show wpAny _ _ (Builtin.List.listExtendWith (.ref s.heap.objs.size) (.ref l) (.ref s.heap.objs.size)) _ _ { s with heap := s.heap.push (seqObj "list" #[] 0) }
  skip; unfold Builtin.List.listExtendWith
  skip; have hoX' : (s.heap.push (seqObj "list" #[] 0)).get? l = some o := Heap.get?_push_of_some _ ho
  skip; refine wpAny_bind (wpAny_typeOf (T := "tuple") ⟨o, hoX', hc⟩ ?_)
  skip; have ht : (Value.type "tuple" == Value.type "tuple") = true := by rfl
  skip; rw [if_pos (by rw [ht]; simp)]
  skip; refine wpAny_bind (listItems_at hoX' hd ?_)
  skip; refine wpAny_bind (listItems_at (xs := #[]) (n := 0) (Heap.get?_push_size _ rfl) rfl ?_)
  rw [if_neg (by simp)]
  skip; refine wpAny_bind (listUpdate_at (xs := #[]) (n := 0) (Heap.get?_push_size _ rfl) rfl ?_ (Nat.zero_le _) (by show (#[] ++ vs.toArray).size ≤ sizeLine + 1; simp only [Array.size_append, List.size_toArray, List.length_nil]; omega))
  refine wpAny_pure ?_
  skip; show wpAny (model prog w) A (do
      let o ← load s.heap.objs.size
      match o.data with
      | .seq xs _ => pure xs.toList
      | _ => unsupported "internal:collect") Q E { s with heap := (s.heap.push (seqObj "list" #[] 0)).update s.heap.objs.size (Obj.mapSeq (· ++ vs.toArray)) }
  skip; refine wpAny_bind (wpAny_load (get?_update_seq (Heap.get?_push_size _ rfl) _) ?_)
  skip; show wpAny _ _ (pure ((#[] : Array Value) ++ vs.toArray).toList) Q E _
  skip; rw [show ((#[] : Array Value) ++ vs.toArray).toList = vs by simp]
  exact wpAny_pure h

theorem sorted_tupX {l : Addr} {vs : List Value} {ltv : Value → Value → Bool} {Q : Value → Shared → Prop} (O : Swo ltv) (hl : s.heap.IsTuple l vs.toArray) (hz : vs.length ≤ sizeLine)
    (hS : 2 ≤ vs.length → ∀ (h₁ : Heap) (a : Addr), h₁.get? a = some (seqObj "list" vs.toArray 0) → (∀ b o, s.heap.get? b = some o → b ≠ a ∧ h₁.get? b = some o) → SortableO prog w A.in1.in1 { s with heap := h₁ } a vs ltv)
    (h : ∀ out : List Value, Srtd ltv out → Stb ltv out vs → Q (.ref (s.heap.objs.size + 1)) { s with heap := sortedAll s.heap vs out.toArray }) :
    wpAny (model prog w) A (call (.builtin "sorted") [.ref l]) Q E s := by
  skip; refine Calls.call_function_entry kind_sorted plain_sorted entry_sorted (args_sorted1 _) ?_
  unfold Builtin.«sorted»
  skip; refine wpAny_bind (m := checkCount "sorted" 1 1 _) (wpAny_pure ?_)
  skip; refine wpAny_bind (collect_tupX hl ?_ hz)
  skip; refine wpAny_bind (wpAny_newList ?_ hz)
  skip; have hszX : ((s.heap.push (seqObj "list" #[] 0)).update s.heap.objs.size (Obj.mapSeq (· ++ vs.toArray))).objs.size = s.heap.objs.size + 1 := by
    skip; rw [Heap.size_update, size_push']
  skip; have hoLX : (((s.heap.push (seqObj "list" #[] 0)).update s.heap.objs.size (Obj.mapSeq (· ++ vs.toArray))).push (seqObj "list" vs.toArray 0)).get? (s.heap.objs.size + 1) = some (seqObj "list" vs.toArray 0) := by
    skip; rw [← hszX]; exact Heap.get?_push_size _ rfl
  skip; have keepX : ∀ b o, s.heap.get? b = some o → b ≠ s.heap.objs.size + 1 ∧ (((s.heap.push (seqObj "list" #[] 0)).update s.heap.objs.size (Obj.mapSeq (· ++ vs.toArray))).push (seqObj "list" vs.toArray 0)).get? b = some o := fun b o q => by
    skip; have hlt : b < s.heap.objs.size := Heap.lt_size q
    skip; refine ⟨Nat.ne_of_lt (Nat.lt_succ_of_lt hlt), Heap.get?_push_of_some _ ?_⟩
    skip; rw [Heap.get?_update_ne _ _ _ _ (Nat.ne_of_lt hlt)]
    skip; exact Heap.get?_push_of_some _ q
  skip; show wpAny _ _ _ _ _ { s with heap := ((s.heap.push (seqObj "list" #[] 0)).update s.heap.objs.size (Obj.mapSeq (· ++ vs.toArray))).push (seqObj "list" vs.toArray 0) }
  rw [hszX]
  skip; refine wpAny_bind (wpAny_holding (wpAny_call_entry slot_list_sort ⟨_, hoLX, rfl⟩ entry_list_sort (list_sort_ord O hoLX hz (fun h2 => hS h2 _ _ hoLX keepX) fun out hs hb => ⟨_, rfl, ?_⟩) (args_list_sort _)))
  skip; exact wpAny_pure ⟨_, rfl, h out hs hb⟩

end
end SrtO
namespace PL
open PySem PySem.Spec PyProof.Rows L2
theorem sorted_tupI {X : Cx} {pins : List (Addr × Obj)} {s : Shared} {σ : L2.St} {H : Hp} {us : List Value} {Q : VK} {a : Addr} {ns : List Int} (I : Inv X pins σ H s) (r : Vals [V.ref a] us) (hs : SqT X.K H a (ns.map V.int))
    (q : ∀ (ns' : List Int) (p : Addr), ns'.Perm ns → ns'.Pairwise (· ≤ ·) → H p = none → Q (.ref p) (upd H p (.lst (ns'.map V.int)))) :
    wpAny (model X.prog X.w) X.A (call (.builtin "sorted") us) (fun u s' => ∃ v H', Inv X pins σ H' s' ∧ RelV v u ∧ Q v H') X.xe s := by
  obtain ⟨its, rv, hl, hz⟩ := I.tuple hs
  rw [Vals.ref1 r]
  have hiT := rv.ints
  refine SrtO.sorted_tupX (vs := its) SrtO.swo_int hl (by rw [← rv.length]; simpa using hz) (fun h2 h₁ a' _ _ => SrtO.ints_sortable hiT h2) fun out h1 h2 => ?_
  obtain ⟨k1, k2, k3⟩ := SrtO.ints_out hiT h1 h2
  obtain ⟨ep, heT⟩ := PyProof.Rows.sortedAll_at s.heap its out.toArray
  have hlT : ((out.map SrtO.iv).map V.int).length ≤ sizeLine := by
    rw [List.length_map, k2.length_eq]; rw [List.length_map] at hz; exact hz
  exact ⟨.ref _, upd H (s.heap.objs.size + 1) (.lst ((out.map SrtO.iv).map V.int)), I.laid (t' := s.toks) (fun _ _ => PyProof.Rows.sortedAll_old) (Nat.le_succ _) ⟨hlT, out, ep, vals_of_ints k1, heT⟩, rfl,
    q _ _ k2 k3 (I.hok.fresh (Nat.le_succ _))⟩
/-- sorted of a list with at most one value, of any kind -/
def rSrt1 (K : PySem.W.Frag) : List V → Hp → VK → Prop := fun vs H Q => ∃ (a : Addr) (xs : List V), vs = [V.ref a] ∧ SqL K H a xs ∧ xs.length < 2 ∧
  ∀ p : Addr, H p = none → Q (.ref p) (upd H p (.lst xs))
theorem cr_srt1 {X : Cx} : CallR X (.builtin "sorted") (rSrt1 X.K) := by
  intro pins s σ H vs us Q I r h
  obtain ⟨a, xs, rfl, hs, h2, q⟩ := h
  obtain ⟨its, rv, hl, hz⟩ := I.list hs
  rw [Vals.ref1 r]
  refine SrtO.sorted_ord SrtO.swo_int hl.isList (by rw [← rv.length]; exact hz) (fun h3 h₁ a' _ _ => absurd h3 (by rw [← rv.length]; omega)) fun out h1 h2' => ?_
  have e : out = its := by
    have hp := h2'.perm
    have hlen := hp.length_eq
    match its, out, rv.length, hp with
    | [], out, _, hp => exact hp.eq_nil
    | [x], out, _, hp => exact List.perm_singleton.mp hp
    | _ :: _ :: _, _, hh, _ => simp at hh; omega
  subst e
  obtain ⟨ep, heT⟩ := PyProof.Rows.sortedAll_at s.heap out out.toArray
  exact ⟨.ref _, upd H (s.heap.objs.size + 1) (.lst xs), I.laid (t' := s.toks) (fun _ _ => PyProof.Rows.sortedAll_old) (Nat.le_succ _) ⟨hz, out, ep, rv, heT⟩, rfl,
    q _ (I.hok.fresh (Nat.le_succ _))⟩
def rSrt3 (K : PySem.W.Frag) : List V → Hp → VK → Prop := fun vs H Q => rSortedI K vs H Q ∨
  (∃ (a : Addr) (ns : List Int), vs = [V.ref a] ∧ SqT K H a (ns.map V.int) ∧ ∀ (ns' : List Int) (p : Addr), ns'.Perm ns → ns'.Pairwise (· ≤ ·) → H p = none → Q (.ref p) (upd H p (.lst (ns'.map V.int)))) ∨
  (∃ d, 1 ≤ d ∧ rSortU K d 10000000000000 vs H Q) ∨ rSrt1 K vs H Q
theorem cr_srt3 {X : Cx} : CallR X (.builtin "sorted") (rSrt3 X.K) := by
  intro pins s σ H vs us Q I r h
  rcases h with h | ⟨a, ns, rfl, hs, q⟩ | ⟨d, hd, h⟩ | h
  · exact cr_sortedI pins s σ H vs us Q I r h
  · exact sorted_tupI I r hs q
  · exact cr_sortT hd pins s σ H vs us Q I r h
  · exact cr_srt1 pins s σ H vs us Q I r h
/-! sorted, plain -/
def insB {α : Type} (le : α → α → Bool) (x : α) : List α → List α
  | [] => [x]
  | y :: r => if le x y = true then x :: y :: r else y :: insB le x r
def srtB {α : Type} (le : α → α → Bool) : List α → List α
  | [] => []
  | x :: r => insB le x (srtB le r)
theorem insB_perm {α : Type} (le : α → α → Bool) (x : α) : ∀ l : List α, (insB le x l).Perm (x :: l)
  | [] => .refl _
  | y :: r => by
    unfold insB
    split
    · exact .refl _
    · exact ((insB_perm le x r).cons y).trans (.swap x y r)
theorem srtB_perm {α : Type} (le : α → α → Bool) : ∀ l : List α, (srtB le l).Perm l
  | [] => .refl _
  | x :: r => (insB_perm le x _).trans ((srtB_perm le r).cons x)
theorem insB_pw {α : Type} {le : α → α → Bool} (tot : ∀ a b, le a b = true ∨ le b a = true) (tr : ∀ a b c, le a b = true → le b c = true → le a c = true) (x : α) : ∀ l : List α, l.Pairwise (fun a b => le a b = true) → (insB le x l).Pairwise (fun a b => le a b = true)
  | [], _ => by simp [insB]
  | y :: r, h => by
    unfold insB
    rw [List.pairwise_cons] at h
    split
    · rename_i hxy
      refine List.pairwise_cons.mpr ⟨fun z hz => ?_, List.pairwise_cons.mpr h⟩
      rcases List.mem_cons.mp hz with rfl | hz
      · exact hxy
      · exact tr _ _ _ hxy (h.1 z hz)
    · rename_i hxy
      refine List.pairwise_cons.mpr ⟨fun z hz => ?_, insB_pw tot tr x r h.2⟩
      rcases List.mem_cons.mp ((insB_perm le x r).subset hz) with rfl | hz
      · exact (tot z y).resolve_left hxy
      · exact h.1 z hz
theorem srtB_pw {α : Type} {le : α → α → Bool} (tot : ∀ a b, le a b = true ∨ le b a = true) (tr : ∀ a b c, le a b = true → le b c = true → le a c = true) : ∀ l : List α, (srtB le l).Pairwise (fun a b => le a b = true)
  | [] => .nil
  | x :: r => insB_pw tot tr x _ (srtB_pw tot tr r)
def leI (a b : Int) : Bool := decide (a ≤ b)
def srtI (l : List Int) : List Int := srtB leI l
theorem srtI_perm (l : List Int) : (srtI l).Perm l := srtB_perm _ l
theorem srtI_pw (l : List Int) : (srtI l).Pairwise (· ≤ ·) := (srtB_pw (le := leI) (by unfold leI; simp only [decide_eq_true_eq]; omega) (by unfold leI; simp only [decide_eq_true_eq]; omega) l).imp fun h => of_decide_eq_true h
theorem srtI_uniq {l m : List Int} (p : m.Perm l) (h : m.Pairwise (· ≤ ·)) : m = srtI l := (p.trans (srtI_perm l).symm).eq_of_pairwise (fun a b _ _ h1 h2 => Int.le_antisymm h1 h2) h (srtI_pw l)
/-- rows, by their code -/
def BB : Int := 10000000000000
def leR (a b : List Int) : Bool := decide (TS.code BB a ≤ TS.code BB b)
def srtR (l : List (List Int)) : List (List Int) := srtB leR l
theorem srtR_perm (l : List (List Int)) : (srtR l).Perm l := srtB_perm _ l
theorem srtR_pw (l : List (List Int)) : (srtR l).Pairwise (fun a b => TS.code BB a ≤ TS.code BB b) := (srtB_pw (le := leR) (by unfold leR; simp only [decide_eq_true_eq]; omega) (by unfold leR; simp only [decide_eq_true_eq]; omega) l).imp fun h => of_decide_eq_true h
def intsOf : List D → Option (List Int)
  | [] => some []
  | .int i :: r => (intsOf r).map (i :: ·)
  | _ :: _ => none
theorem intsOf_eq : ∀ {l : List D} {ns : List Int}, intsOf l = some ns → l = ns.map .int
  | [], ns, h => by simp [intsOf] at h; subst h; rfl
  | d :: r, ns, h => by
    cases d <;> simp only [intsOf, reduceCtorEq] at h
    obtain ⟨ms, h1, rfl⟩ := Option.map_eq_some_iff.mp h
    rw [intsOf_eq h1]; rfl
theorem intsOf_map : ∀ (ns : List Int), intsOf (ns.map .int) = some ns
  | [] => rfl
  | n :: ns => by simp [intsOf, intsOf_map ns]
def rowsOf : List D → Option (List (List Int))
  | [] => some []
  | .tup xs :: r => (intsOf xs).bind fun ns => (rowsOf r).map (ns :: ·)
  | _ :: _ => none
theorem rowsOf_eq : ∀ {l : List D} {rs : List (List Int)}, rowsOf l = some rs → l = rs.map fun r => .tup (r.map .int)
  | [], rs, h => by simp [rowsOf] at h; subst h; rfl
  | d :: r, rs, h => by
    cases d <;> simp only [rowsOf, reduceCtorEq] at h
    obtain ⟨ns, h1, h2⟩ := Option.bind_eq_some_iff.mp h
    obtain ⟨ms, h3, rfl⟩ := Option.map_eq_some_iff.mp h2
    rw [rowsOf_eq h3, intsOf_eq h1]; rfl
theorem rowsOf_map : ∀ (rs : List (List Int)), rowsOf (rs.map fun r => .tup (r.map .int)) = some rs
  | [] => rfl
  | n :: ns => by simp [rowsOf, intsOf_map, rowsOf_map ns]
/-- rows that can be sorted: all as long, not empty, with numbers in bounds -/
def RowsOk (rs : List (List Int)) : Prop := rs.length < 64 ∧ ∃ d, 1 ≤ d ∧ ∀ r ∈ rs, r.length = d ∧ ∀ n ∈ r, 0 ≤ n ∧ n < BB
noncomputable def gSorted : D → Option D
  | .tup xs => (intsOf xs).map fun ns => .opn ((srtI ns).map .int)
  | .lst xs => match intsOf xs with
    | some ns => some (.opn ((srtI ns).map .int))
    | none => (rowsOf xs).bind fun rs => if cdec (RowsOk rs) = true then some (.opn ((srtR rs).map fun r => .tup (r.map .int))) else if rs.length < 2 then some (.opn xs) else none
  | _ => none
theorem repL_intsV {K : PySem.W.Frag} {H : Hp} : ∀ {ns : List Int} {vs : List V}, RepL K H (ns.map .int) vs → vs = ns.map V.int
  | [], vs, h => by simpa [RepL] using h
  | n :: ns, vs, h => by
    simp only [List.map_cons, RepL, RepF] at h
    obtain ⟨v, r, rfl, rfl, h2⟩ := h
    rw [repL_intsV h2]; rfl
theorem repL_ints {K : PySem.W.Frag} {H : Hp} : ∀ {ns : List Int}, RepL K H (ns.map .int) (ns.map V.int)
  | [] => by simp [RepL]
  | n :: ns => by
    simp only [List.map_cons, RepL, RepF]
    exact ⟨_, _, rfl, rfl, repL_ints⟩
theorem code_inj : ∀ a b : List Int, a.length = b.length → TS.Bd BB a → TS.Bd BB b → TS.code BB a = TS.code BB b → a = b
  | [], [], _, _, _, _ => rfl
  | [], _ :: _, h, _, _, _ => by simp at h
  | _ :: _, [], h, _, _, _ => by simp at h
  | x :: a, y :: b, hl, b1, b2, hc => by
    have hl2 : a.length = b.length := by simpa using hl
    rcases Int.lt_trichotomy x y with z | z | z
    · have := TS.code_lt hl2 b1.tail b2.tail z; omega
    · subst z
      have e : TS.code BB a = TS.code BB b := by
        have c1 := hc
        simp only [TS.code] at c1
        rw [hl2] at c1
        omega
      rw [code_inj a b hl2 b1.tail b2.tail e]
    · have := TS.code_lt hl2.symm b2.tail b1.tail z; omega
theorem srtR_uniq {K : PySem.W.Frag} {H : Hp} {d : Nat} {rs : List (List Int)} {ys xs : List V} (hd : ∀ r ∈ rs, r.length = d ∧ TS.Bd BB r) (rx : RepL K H (rs.map fun r => .tup (r.map .int)) xs) (p : ys.Perm xs)
    (h : ys.Pairwise (fun x y => ∀ n m, TupI K H x n → TupI K H y m → TS.code BB n ≤ TS.code BB m)) : RepL K H ((srtR rs).map fun r => .tup (r.map .int)) ys := by
  -- the rows behind ys
  have key : ∀ {xs ys : List V}, ys.Perm xs → ∀ rs : List (List Int), RepL K H (rs.map fun r => .tup (r.map .int)) xs → ∃ qs : List (List Int), qs.Perm rs ∧ RepL K H (qs.map fun r => .tup (r.map .int)) ys := by
    intro xs ys p
    induction p with
    | nil => intro rs hr; exact ⟨rs, .refl _, hr⟩
    | cons x _ ih =>
      intro rs hr
      cases rs with
      | nil => simp [RepL] at hr
      | cons r rs =>
        simp only [List.map_cons, RepL] at hr
        obtain ⟨v, s, e, h1, h2⟩ := hr
        cases e
        obtain ⟨qs, q1, q2⟩ := ih rs h2
        exact ⟨r :: qs, q1.cons r, by simp only [List.map_cons, RepL]; exact ⟨_, _, rfl, h1, q2⟩⟩
    | swap x y l =>
      intro rs hr
      cases rs with
      | nil => simp [RepL] at hr
      | cons r rs =>
        cases rs with
        | nil => simp [RepL] at hr
        | cons r2 rs =>
          simp only [List.map_cons, RepL] at hr
          obtain ⟨v, s, e, h1, v2, s2, e2, h3, h4⟩ := hr
          cases e; cases e2
          exact ⟨r2 :: r :: rs, .swap _ _ _, by simp only [List.map_cons, RepL]; exact ⟨_, _, rfl, h3, _, _, rfl, h1, h4⟩⟩
    | trans _ _ ih1 ih2 =>
      intro rs hr
      obtain ⟨qs, q1, q2⟩ := ih2 rs hr
      obtain ⟨ts, t1, t2⟩ := ih1 qs q2
      exact ⟨ts, t1.trans q1, t2⟩
  obtain ⟨qs, q1, q2⟩ := key p rs rx
  have tup : ∀ {r : List Int} {v : V}, RepF K H (.tup (r.map .int)) v → TupI K H v r := fun {r v} h => by
    obtain ⟨a, vs, rfl, ha, ra⟩ := repW_tup (RepW.of h)
    rw [repL_intsV ra] at ha
    exact ⟨a, rfl, ha⟩
  have pw : ∀ {ys : List V} {qs : List (List Int)}, RepL K H (qs.map fun r => .tup (r.map .int)) ys → ys.Pairwise (fun x y => ∀ n m, TupI K H x n → TupI K H y m → TS.code BB n ≤ TS.code BB m) → qs.Pairwise (fun a b => TS.code BB a ≤ TS.code BB b) := by
    intro ys qs
    induction qs generalizing ys with
    | nil => intro _ _; exact .nil
    | cons r qs ih =>
      intro hr hp
      simp only [List.map_cons, RepL] at hr
      obtain ⟨v, s, rfl, h1, h2⟩ := hr
      rw [List.pairwise_cons] at hp
      refine List.pairwise_cons.mpr ⟨fun r2 hr2 => ?_, ih h2 hp.2⟩
      obtain ⟨j, hj⟩ := List.getElem?_of_mem hr2
      obtain ⟨v2, h3, h4⟩ := h2.get (i := j) (d := .tup (r2.map .int)) (by rw [List.getElem?_map, hj]; rfl)
      exact hp.1 v2 (List.mem_of_getElem? h3) _ _ (tup h1) (tup h4)
  have e : qs = srtR rs := (q1.trans (srtR_perm rs).symm).eq_of_pairwise (fun a b ha hb h1 h2 => code_inj a b ((hd a (q1.subset ha)).1.trans (hd b ((srtR_perm rs).subset hb)).1.symm) (hd a (q1.subset ha)).2 (hd b ((srtR_perm rs).subset hb)).2 (by omega)) (pw q2 h) (srtR_pw rs)
  rw [← e]
  exact q2
theorem rul_sorted {K : PySem.W.Frag} : RulU K gSorted (rSrt3 K) := fun dx d x H Q r h q => by
  cases dx <;> simp only [gSorted, reduceCtorEq] at h
  · obtain ⟨ns, h1, rfl⟩ := Option.map_eq_some_iff.mp h
    obtain ⟨a, vs, rfl, ha, ra⟩ := repW_tup r
    rw [intsOf_eq h1] at ra
    rw [repL_intsV ra] at ha
    exact .inr (.inl ⟨a, ns, rfl, ha, fun ns' p hp hpw hn => q _ _ (same_new hn) ⟨p, _, rfl, hn, upd_same, by rw [← srtI_uniq hp hpw]; exact repL_ints⟩⟩)
  · obtain ⟨a, vs, rfl, ha, ra⟩ := repW_lst r
    split at h
    · rename_i ns h1
      cases h
      rw [intsOf_eq h1] at ra
      rw [repL_intsV ra] at ha
      exact .inl ⟨a, ns, rfl, .inl ha, fun ns' p hp hpw hn => q _ _ (same_new hn) ⟨p, _, rfl, hn, upd_same, by rw [← srtI_uniq hp hpw]; exact repL_ints⟩⟩
    · obtain ⟨rs, h1, h2⟩ := Option.bind_eq_some_iff.mp h
      split at h2
      · rename_i hok
        cases h2
        obtain ⟨o1, w1, o2, o3⟩ := cdec_iff.mp hok
        rw [rowsOf_eq h1] at ra
        refine .inr (.inr (.inl ⟨w1, o2, a, vs, rfl, .inl ha, by rw [ra.length, List.length_map]; exact o1, fun x hx => ?_, fun ys p hp hpw hn => q _ _ (same_new hn) ⟨p, ys, rfl, hn, upd_same, RepL.ext (Ext.of (same_new hn)) _ _ (srtR_uniq (d := w1) (fun r hr => ⟨(o3 r hr).1, (o3 r hr).2⟩) ra hp hpw)⟩⟩))
        obtain ⟨j, hj⟩ := List.getElem?_of_mem hx
        have hlt : j < rs.length := by
          have := (List.getElem?_eq_some_iff.mp hj).1
          rw [ra.length, List.length_map] at this; exact this
        obtain ⟨v2, h3, h4⟩ := ra.get (i := j) (d := .tup (rs[j].map .int)) (by rw [List.getElem?_map, List.getElem?_eq_getElem hlt]; rfl)
        rw [hj] at h3; cases h3
        obtain ⟨a2, vs2, rfl, ha2, ra2⟩ := repW_tup (RepW.of h4)
        rw [repL_intsV ra2] at ha2
        exact ⟨rs[j], ⟨a2, rfl, ha2⟩, (o3 _ (List.getElem_mem hlt)).1, (o3 _ (List.getElem_mem hlt)).2⟩
      · split at h2
        · rename_i hlt
          cases h2
          exact .inr (.inr (.inr ⟨a, vs, rfl, .inl ha, by rw [ra.length, rowsOf_eq h1, List.length_map]; exact hlt, fun p hn => q _ _ (same_new hn) ⟨p, vs, rfl, hn, upd_same, RepL.ext (Ext.of (same_new hn)) _ _ ra⟩⟩))
        · cases h2
section
variable {X : Cx} {a b : Expr} {fa : Rho → Option D} {pos : Pos}
theorem me_sorted {p : Pos} (hg : Gl X "sorted") (hm : X.mg "sorted" = none) (ha : WE X a fa) (he : starEach [a] X.env = (false, eval a X.env) :: starEach [] X.env := by rfl) (hpl : (backTo pos (starEach [] X.env)).any (·.1) = false := by rfl) :
    ME X (.Call (.Name "sorted" p) [a] [] pos) (u1 gSorted fa) := me_callB (id := "sorted") cr_srt3 rul_sorted hg hm (by decide +kernel) ha (by decide) (by decide) he hpl
def gSum : D → Option D
  | .lst xs => (intsOf xs).map fun ns => .int ns.sum
  | _ => none
theorem rul_sum {K : PySem.W.Frag} : RulU K gSum (rSum K) := fun dx d x H Q r h q => by
  cases dx <;> simp only [gSum, reduceCtorEq] at h
  obtain ⟨ns, h1, rfl⟩ := Option.map_eq_some_iff.mp h
  obtain ⟨a, vs, rfl, ha, ra⟩ := repW_lst r
  rw [intsOf_eq h1] at ra
  rw [repL_intsV ra] at ha
  exact ⟨a, ns, rfl, .inl ha, q _ H (Same.refl H) (RepM.of repF_int)⟩
theorem fe_sum {p : Pos} (hc : X.calm = true) (hg : Gl X "sum") (hm : X.mg "sum" = none) (ha : WE X a fa) (he : starEach [a] X.env = (false, eval a X.env) :: starEach [] X.env := by rfl) (hpl : (backTo pos (starEach [] X.env)).any (·.1) = false := by rfl) :
    FE X (.Call (.Name "sum" p) [a] [] pos) (u1 gSum fa) :=
  fe_of_plain (fun x d h ds => by
      cases x <;> simp only [gSum, reduceCtorEq] at h
      obtain ⟨ns, _, rfl⟩ := Option.map_eq_some_iff.mp h
      exact fun z => nomatch z)
    (me_callB (id := "sum") (cr_sum hc) rul_sum hg hm (by decide +kernel) ha (by decide) (by decide) he hpl)
end
end PL
/-! ### part PL15 -/
namespace PL
open PySem PySem.Spec PyProof.Rows L2

/-! ### comprehensions of two clauses -/
def compGo2 (t : Tgt) (src1 : Rho → Option (List D)) (vs1 : List Nat) (t1 : Tgt) (e : Rho → Option D) (ρ : Rho) : List D → Option (List D)
  | [] => some []
  | d :: r => (t d ρ).bind fun ρ1 => (src1 ρ1).bind fun l1 => (compGo t1 cYes e (wipeR ρ1 vs1) l1).bind fun ys => (compGo2 t src1 vs1 t1 e ρ r).map (ys ++ ·)
def fComp2 (src : Rho → Option (List D)) (vs : List Nat) (t : Tgt) (src1 : Rho → Option (List D)) (vs1 : List Nat) (t1 : Tgt) (e : Rho → Option D) : Rho → Option D := fun ρ => (src ρ).bind fun l => (compGo2 t src1 vs1 t1 e (wipeR ρ vs) l).bind fun out => if small out.length = true then some (.opn out) else none
theorem tlc2_of {K : PySem.W.Frag} {b : Bool} {src src1 : Rho → Option (List D)} {is is1 vs vs1 : List Nat} {t t1 : Tgt} {e : Rho → Option D} (hv : ∀ i ∈ is, i ∈ vs) (hv1 : ∀ i ∈ is1, i ∈ vs1) {σ : L2.St} {H : Hp} {Q : VK}
    (h : tM K (fComp2 src vs t src1 vs1 t1 e) σ H Q) : tLc2 (iI K b src) (tT K is t) (tB K cYes) (iI K true src1) (tT K is1 t1) (tB K cYes) (tF K e) vs vs1 σ H Q := by
  obtain ⟨ρ, d0, er, hf, q⟩ := h
  obtain ⟨l, h1, h2⟩ := Option.bind_eq_some_iff.mp hf
  obtain ⟨out, h3, h2⟩ := Option.bind_eq_some_iff.mp h2
  split at h2
  · rename_i hsm
    cases h2
    refine ⟨ρ, l, er, h1, fun J H1 S s1 w hS _ L hD => ?_⟩
    have hl := small_le hsm
    refine ⟨fun i m H2 => m = l.length - i ∧ i ≤ l.length ∧ ∃ acc rest vs2, compGo2 t src1 vs1 t1 e (wipeR ρ vs) (l.drop i) = some rest ∧ acc ++ rest = out ∧ H2 L = some (.lst vs2) ∧ RepL K H2 acc vs2 ∧ Same H1 H2,
      ⟨l.length, by simp, Nat.zero_le _, [], out, [], by simpa using h3, rfl, upd_same, .nil, same_new hD⟩, ?_⟩
    rintro i m H2 ⟨rfl, hi, acc, rest, vs2, g1, g2, g3, g4, g6⟩
    have kS : ∀ a, S a → H2 a = H1 a := fun a ha => by
      obtain ⟨xs, hx⟩ := hS a ha
      rw [hx, g6 a _ hx]
    by_cases hlt : i < l.length
    · refine .inr ⟨w.go i H2 hlt (Ext.of g6) kS, _, fun H' n => ⟨l.length - (i + 1), by omega, rfl, hlt, n⟩, fun x H3 y => ?_⟩
      have hd : l[i]? = some l[i] := List.getElem?_eq_getElem hlt
      obtain ⟨s3, r3⟩ := w.yld i H2 x H3 l[i] hd (Ext.of g6) kS y
      have e1 : l.drop i = l[i] :: l.drop (i + 1) := List.drop_eq_getElem_cons hlt
      rw [e1] at g1
      simp only [compGo2] at g1
      obtain ⟨ρ1, u1, g1⟩ := Option.bind_eq_some_iff.mp g1
      obtain ⟨l1, u2, g1⟩ := Option.bind_eq_some_iff.mp g1
      obtain ⟨ys, u3, g1⟩ := Option.bind_eq_some_iff.mp g1
      obtain ⟨rest', u4, rfl⟩ := Option.map_eq_some_iff.mp g1
      have er3 : ER K H3 (wipe σ vs) (wipeR ρ vs) := er_wipe (er.same ((s1.trans g6).trans s3)) vs
      refine ⟨wipeR ρ vs, l[i], ρ1, er3, r3, u1, fun σ4 H4 s4 st => ⟨by rw [st.wipe hv, wipe_wipe], ?_⟩⟩
      have er4 := st.er (er3.same s4)
      refine ⟨ρ1, true, er4, rfl, fun H5 s5 => ?_⟩
      simp only [if_true]
      refine ⟨ρ1, l1, er4.same s5, u2, fun J1 H6 S1 s6 w1 hS1 hE1 => ?_⟩
      have noS := hE1 rfl
      have s26 := ((s3.trans s4).trans s5).trans s6
      refine ⟨fun j k H7 => k = l1.length - j ∧ j ≤ l1.length ∧ ∃ acc1 rest1 vs3, compGo t1 cYes e (wipeR ρ1 vs1) (l1.drop j) = some rest1 ∧ acc1 ++ (rest1 ++ rest') = out ∧ H7 L = some (.lst vs3) ∧ RepL K H7 acc1 vs3 ∧ Ext H6 H7 ∧ Same H1 H7,
        ⟨l1.length, by simp, Nat.zero_le _, acc, ys, vs2, by simpa using u3, g2, s26 _ _ g3, g4.ext (Ext.of s26), Ext.refl _, g6.trans s26⟩, ?_⟩
      rintro j k H7 ⟨rfl, hj, acc1, rest1, vs3, c1, c2, c3, c4, c5, c6⟩
      by_cases hjl : j < l1.length
      · refine .inr ⟨w1.go j H7 hjl c5 (fun a ha => (noS a ha).elim), _, fun H' n => ⟨l1.length - (j + 1), by omega, rfl, hjl, n⟩, fun x1 H8 y1 => ?_⟩
        have hd1 : l1[j]? = some l1[j] := List.getElem?_eq_getElem hjl
        obtain ⟨s8, r8⟩ := w1.yld j H7 x1 H8 l1[j] hd1 c5 (fun a ha => (noS a ha).elim) y1
        have e2 : l1.drop j = l1[j] :: l1.drop (j + 1) := List.drop_eq_getElem_cons hjl
        rw [e2] at c1
        simp only [compGo] at c1
        obtain ⟨ρ2, v1, c1⟩ := Option.bind_eq_some_iff.mp c1
        simp only [cYes, Option.bind_some, if_true] at c1
        obtain ⟨y2, v2, c1⟩ := Option.bind_eq_some_iff.mp c1
        obtain ⟨rest2, v3, rfl⟩ := Option.map_eq_some_iff.mp c1
        have er8 : ER K H8 (wipe σ4 vs1) (wipeR ρ1 vs1) := er_wipe ((Sets.ext ((((Ext.of s5).trans (Ext.of s6)).trans c5).trans (Ext.of s8)) st).er (er_wipe (er.same (s1.trans (c6.trans s8))) vs)) vs1
        refine ⟨wipeR ρ1 vs1, l1[j], ρ2, er8, r8, v1, fun σ9 H9 s9 st9 => ⟨by rw [st9.wipe hv1, wipe_wipe], ?_⟩⟩
        refine ⟨ρ2, true, st9.er (er8.same s9), rfl, fun H10 s10 => ?_⟩
        simp only [if_true]
        refine ⟨ρ2, y2, (st9.er (er8.same s9)).same s10, v2, fun v H11 s11 r11 => ?_⟩
        have s711 := ((s8.trans s9).trans s10).trans s11
        have c3' := s711 _ _ c3
        have ext : Ext H11 (upd H11 L (.lst (vs3 ++ [v]))) := Ext.updO (.inl (by rw [c3']; trivial))
        refine ⟨vs3, c3', ?_, acc1 ++ [y2], rest2, vs3 ++ [v], v3, by rw [← c2]; simp, upd_same, ?_, (c5.trans (Ext.of s711)).trans ext, same_new2 (c6.trans s711) hD⟩
        · have : (acc1 ++ (y2 :: rest2 ++ rest')).length = out.length := by rw [c2]
          rw [c4.length]
          simp at this
          omega
        · exact ((c4.ext (Ext.of s711)).append (RepL.one r11)).ext ext
      · have ej : j = l1.length := by omega
        subst ej
        rw [List.drop_length] at c1
        simp only [compGo] at c1
        cases c1
        rw [List.nil_append] at c2
        exact .inl ⟨w1.stop H7 c5 (fun a ha => (noS a ha).elim), acc1, rest', vs3, u4, c2, c3, c4, c6⟩
    · have e : i = l.length := by omega
      subst e
      rw [List.drop_length] at g1
      simp only [compGo2] at g1
      cases g1
      rw [List.append_nil] at g2
      subst g2
      exact .inl ⟨w.stop H2 (Ext.of g6) kS, q _ H2 (s1.trans g6) ⟨L, vs2, rfl, s1.free hD, g3, g4⟩⟩
  · cases h2
section
variable {X : Cx} {H0 : Hp}
theorem me_lc2 {elt tg iter tg1 iter1 : Expr} {scope : Scope} {own : List (Str × Nat)} {pos: Pos} {b : Bool} {src src1 : Rho → Option (List D)} {is is1 vs vs1 : List Nat} {t t1 : Tgt} {e : Rho → Option D} (hc : X.calm = true) (hN : X.N.Nodup) (hi : IE X tg iter b src) (ok : BlkOk X.N X.env.scope scope own)
    (hg : ∀ (s : Shared) (H : Hp) (C : Addr) (cl : List (Str × Addr)) (fp : List Addr), GE (X.blk s H scope (compEnvC scope cl C X.env) fp) tg is t)
    (hi1 : ∀ (s : Shared) (H : Hp) (C : Addr) (cl : List (Str × Addr)) (fp : List Addr), IE (X.blk s H scope (compEnvC scope cl C X.env) fp) tg1 iter1 true src1)
    (hg1 : ∀ (s : Shared) (H : Hp) (C : Addr) (cl : List (Str × Addr)) (fp : List Addr), GE (X.blk s H scope (compEnvC scope cl C X.env) fp) tg1 is1 t1)
    (he : ∀ (s : Shared) (H : Hp) (C : Addr) (cl : List (Str × Addr)) (fp : List Addr), FE (X.blk s H scope (compEnvC scope cl C X.env) fp) elt e) (hvs : own.map (·.2) = vs := by rfl) (hv : ∀ i ∈ is, i ∈ vs := by decide) (hv1 : ∀ i ∈ is1, i ∈ vs1 := by decide) (hw : ∀ i ∈ vs1, i ∈ vs := by decide) (hs : ∀ x, foldedSetIterable iter X.env x = pure x := by intro _; rfl) (hs1 : ∀ env x, foldedSetIterable iter1 env x = pure x := by intro _ _; rfl) :
    ME X (.ListComp elt [⟨tg, iter, [], 0⟩, ⟨tg1, iter1, [], 0⟩] scope pos) (fComp2 src vs t src1 vs1 t1 e) := by
  subst hvs
  exact PE.weak (pe_lc2 (g := tT X.K is t) (tt := tB X.K cYes) (wi1 := iI X.K true src1) (g1 := tT X.K is1 t1) (tt1 := tB X.K cYes) (te := tF X.K e) (vs1 := vs1) hc hN hi ok hw hg (fun _ _ _ _ _ => ifs_nil) hi1 hg1 (fun _ _ _ _ _ => ifs_nil) he hs hs1) fun σ H Q h => tlc2_of hv hv1 h
/-- name = [..] on one line, the list left alone from then on -/
theorem se_setLc2F {y : Str} {py : Pos} {elt tg iter tg1 iter1 : Expr} {scope : Scope} {own : List (Str × Nat)} {pos spos : Pos} {b : Bool} {src src1 : Rho → Option (List D)} {is is1 vs vs1 : List Nat} {t t1 : Tgt} {e : Rho → Option D} (i : Nat) (hc : X.calm = true) (hN : X.N.Nodup) (hy : X.N[i]? = some y) (hyl : X.env.scope.names.lookup y = some .local)
    (hsw : swapsWith (.ListComp elt [⟨tg, iter, [], 0⟩, ⟨tg1, iter1, [], 0⟩] scope pos) (some (.Name y py)) spos.line X.env = pure true) (hi : IE X tg iter b src) (ok : BlkOk X.N X.env.scope scope own)
    (hg : ∀ (s : Shared) (H : Hp) (C : Addr) (cl : List (Str × Addr)) (fp : List Addr), GE (X.blk s H scope (compEnvC scope cl C X.env) fp) tg is t)
    (hi1 : ∀ (s : Shared) (H : Hp) (C : Addr) (cl : List (Str × Addr)) (fp : List Addr), IE (X.blk s H scope (compEnvC scope cl C X.env) fp) tg1 iter1 true src1)
    (hg1 : ∀ (s : Shared) (H : Hp) (C : Addr) (cl : List (Str × Addr)) (fp : List Addr), GE (X.blk s H scope (compEnvC scope cl C X.env) fp) tg1 is1 t1)
    (he : ∀ (s : Shared) (H : Hp) (C : Addr) (cl : List (Str × Addr)) (fp : List Addr), FE (X.blk s H scope (compEnvC scope cl C X.env) fp) elt e) (hvs : own.map (·.2) = vs := by rfl) (hv : ∀ i ∈ is, i ∈ vs := by decide) (hv1 : ∀ i ∈ is1, i ∈ vs1 := by decide) (hw : ∀ i ∈ vs1, i ∈ vs := by decide) (hs : ∀ x, foldedSetIterable iter X.env x = pure x := by intro _; rfl) (hs1 : ∀ env x, foldedSetIterable iter1 env x = pure x := by intro _ _; rfl) :
    SE X H0 (.Assign [.Name y py] (.ListComp elt [⟨tg, iter, [], 0⟩, ⟨tg1, iter1, [], 0⟩] scope pos) spos) (gSet i (fz (fComp2 src vs t src1 vs1 t1 e))) := by
  subst hvs
  refine ⟨fun pins s σ H E I ⟨ρ, fl, er, hf, kk⟩ => ?_⟩
  obtain ⟨d', hd', rfl⟩ := Option.map_eq_some_iff.mp hf
  obtain ⟨d, hd, rfl⟩ := Option.map_eq_some_iff.mp hd'
  rw [exec_Assign_Name_used _ _ _ _ hsw]
  refine wpAny_bind (wpAny_standAt (wpAny_bind ?_))
  show wpAny _ X.A (do let _ ← comprehension (.ListComp elt [⟨tg, iter, [], 0⟩, ⟨tg1, iter1, [], 0⟩] scope pos) scope X.env (firstIterPos [⟨tg, iter, [], 0⟩, ⟨tg1, iter1, [], 0⟩] pos) (newList []) false (eval iter X.env) (some (assign (.Name y py) X.env))) _ _ s
  have h : tLc2 (iI X.K b src) (tT X.K is t) (tB X.K cYes) (iI X.K true src1) (tT X.K is1 t1) (tB X.K cYes) (tF X.K e) (own.map (·.2)) vs1 σ H (fun v H' => Same H H' ∧ RepM X.K H H' d v) :=
    tlc2_of hv hv1 ⟨ρ, d, er.toER, hd, fun v H' s r => ⟨s, r⟩⟩
  refine wpAny_bind (thn (lc2_core (g := tT X.K is t) (tt := tB X.K cYes) (wi1 := iI X.K true src1) (g1 := tT X.K is1 t1) (tt1 := tB X.K cYes) (te := tF X.K e) (vs1 := vs1) (Qf := fun _ s' => SP X pins E .next s') hc hN I hi ok hw hg (fun _ _ _ _ _ => ifs_nil) he hs hi1 hg1 (fun _ _ _ _ _ => ifs_nil) hs1 h fun L C s' m H' I' q hn f => ?_) fun _ s' hq => wpAny_pure (wpAny_pure hq))
  show wpAny _ _ (assign (.Name y py) X.env (.ref L)) _ _ _
  refine wpAny_assign_Name (store_ok2 (v := V.ref L) I' hN hy (.inl hyl) rfl (fun s2 I2 ⟨a, sb, ha⟩ => ?_) (.inr hyl))
  obtain ⟨f0, f1, f2, f3, f4, f5⟩ := f
  have haC : C ≠ a := by
    rcases ha with z | z
    · rw [z]; exact f1
    · exact fun e => f4 y a z e.symm
  refine ⟨m, hn.sameBut sb haC, fun h3 sb3 => ?_⟩
  have I3 := I2.turned (t' := s2.toks) (h' := h3) (fun b o hb e => (sb3.2 b hb).trans e) f0 f1 f3 f4 f5
  obtain ⟨sm, r⟩ := q
  obtain ⟨l, h1, h2⟩ := Option.bind_eq_some_iff.mp hd
  obtain ⟨out, h3', h2⟩ := Option.bind_eq_some_iff.mp h2
  split at h2
  · cases h2
    obtain ⟨a', ws, e1, nn, gg, rr⟩ := r
    cases e1
    obtain ⟨od, I4⟩ := I3.lock gg trivial
    have ext : Ext H' (upd H' L (.frz od (.lst ws))) := Ext.updO (.inl (by rw [gg]; trivial))
    have s2' : Same H (upd H' L (.frz od (.lst ws))) := same_new2 sm nn
    refine ⟨_, _, I4, kk _ _ (Ext.of s2') (er.set s2' ?_)⟩
    show RepF _ _ (.lst out) _
    simp only [RepF]
    exact ⟨L, ws, od, rfl, upd_same, rr.ext ext⟩
  · cases h2
end
end PL
namespace PL
open PySem PySem.Spec PyProof.Rows L2
/-- a list of its own, if it still is one, is left alone from here on -/
def gIceT (i : Nat) (g : Rho → Option Fl) : Rho → Option Fl := fun ρ => match ρ[i]? with
  | some (some (.opn ds)) => g (ρ.set i (some (.lst ds)))
  | _ => g ρ
theorem se_iceT {X : Cx} {H0 : Hp} {st : Stmt} {g : Rho → Option Fl} (i : Nat) (h : SE X H0 st g) : SE X H0 st (gIceT i g) := by
  refine ⟨fun pins s σ H E I ⟨ρ, fl, er, hf, k⟩ => ?_⟩
  unfold gIceT at hf
  split at hf
  · rename_i ds hi
    refine (se_ice i h).run pins s σ H E I ⟨ρ, fl, er, ?_, k⟩
    unfold gIce
    rw [hi]; exact hf
  · exact h.run pins s σ H E I ⟨ρ, fl, er, hf, k⟩
end PL
/-! ### part PL16 -/
namespace PL
open PySem PySem.Spec PyProof.Rows L2
/-- range(i, j, c) -/
noncomputable def rng3 : List D → Option (List D)
  | [.int i, .int j, .int c] => if cdec (c ≠ 0 ∧ c.natAbs < 1073741824 ∧ Builtin.Range.small i j c = true ∧ 0 ≤ Builtin.Range.rangeSize i j c) = true then some ((List.range (Builtin.Range.rangeSize i j c).toNat).map fun k => .int (i + (k : Nat) * c)) else none
  | _ => none
theorem repL_three {K : PySem.W.Frag} {H : Hp} {i j k : Int} {vs : List V} (r : RepL K H [.int i, .int j, .int k] vs) : vs = [.int i, .int j, .int k] := by
  simp only [RepL, RepF] at r
  obtain ⟨v, r', rfl, rfl, w, r'', rfl, rfl, u, r3, rfl, rfl, rfl⟩ := r
  rfl
theorem ie_range3 {X : Cx} {tg a b c : Expr} {pos : Pos} {fs : Rho → Option (List D)} {p : Pos} (hg : Gl X "range") (hm : X.mg "range" = none) (ha : AE X [a, b, c] fs)
    (hs : starEach [a, b, c] X.env = (false, eval a X.env) :: starEach [b, c] X.env := by rfl) (hpl : (backTo pos (starEach [b, c] X.env)).any (·.1) = false := by rfl) :
    IE X tg (.Call (.Name "range" p) [a, b, c] [] pos) true (fRng rng3 fs) :=
  PI.weak (pi_range3 hg hm ha hs hpl) fun σ H R ⟨ρ, l, er, hf, q⟩ => by
    obtain ⟨ds, h1, h2⟩ := Option.bind_eq_some_iff.mp hf
    refine ⟨ρ, ds, er, h1, fun vs H1 s1 r1 => ?_⟩
    unfold rng3 at h2
    split at h2
    · rename_i i j c
      split at h2 <;> cases h2
      rename_i hj
      obtain ⟨b1, b2, b3, b4⟩ := cdec_iff.mp hj
      have := repL_three r1
      subst this
      exact ⟨i, j, c, _, rfl, ⟨b1, b2, b3, (Int.toNat_of_nonneg b4).symm⟩, q _ H1 _ s1 wk_rangeC (fun a z => z.elim) (fun _ a z => z)⟩
    · cases h2
end PL
/-! ### part MiC -/
namespace PLaw
open PySem L2 PL
noncomputable section
/-- mark_names: 0 items, 1 item -/
def B_mark_names : Rho → Option Fl :=
  (gSeq (gRet (fComp (fSeq (fVar 0)) [1] (tName 1) (tb (b2 gEq (b2 gIdx (fVarW 1) (fC (.int 0))) (fC (.str "mark")))) (b2 gIdx (fVarW 1) (fC (.int 1)))))
  gNil)
def M_mark_names : List D → Option D := runF 2 B_mark_names
/-- _law_cell: 0 script, 1 index -/
def B__law_cell : Rho → Option Fl :=
  (gSeq (gIf (tb (b2 gLt (fVarW 1) (u1 gLen (fVarW 0)))) (gSeq (gRet (b2 gIdx (fVarW 0) (fVarW 1)))
  gNil) gNil)
  (gSeq (gIf (tb (b2 gEq (u1 gLen (fVarW 0)) (fC (.int 0)))) (gSeq (gRet (b2 gAdd (fz (b2 gMul (fC (.int 7919)) (fVarW 1))) (fC (.int 101))))
  gNil) gNil)
  (gSeq (gRet (b2 gAdd (b2 gMod (b2 gIdx (fVarW 0) (b2 gMod (fVarW 1) (u1 gLen (fVarW 0)))) (fC (.int 1000003))) (fz (b2 gMul (fC (.int 7919)) (fVarW 1)))))
  gNil)))
def M__law_cell : List D → Option D := runF 2 B__law_cell
/-- _law_same_bool: 0 result, 1 expected -/
def B__law_same_bool : Rho → Option Fl :=
  (gSeq (gRet (vAnd (u1 (isT "bool") (fVarW 0)) (b2 gEq (fVarW 0) (fVarW 1))))
  gNil)
def M__law_same_bool : List D → Option D := runF 2 B__law_same_bool
/-- _law_document: 0 digits, 1 most, 2 size, 3 names, 4 some, 5 name, 6 k, 7 digit, 8 many, 9 document, 10 at -/
def L__law_document_0 : Rho → Option Fl :=
  (gSeq (gSet 10 (b2 gMod (b2 gIdx (fVarW 0) (fz (b2 gAdd (fC (.int 30)) (u1 gLen (fVarW 9))))) (u1 gLen (fVarW 4))))
  (gSeq (gSet 9 (fz (b2 gAdd (fVarW 9) (fTup (fsCons (b2 gIdx (fVarW 4) (fVarW 10)) fsNil)))))
  (gSeq (gSet 4 (b2 gAdd (fz (fSl (fVarW 4) oNone (oSome (fVarW 10)))) (fz (fSl (fVarW 4) (oSome (fz (b2 gAdd (fVarW 10) (fC (.int 1))))) oNone))))
  gNil)))
def L__law_document_1 : Rho → Option Fl :=
  (gSeq (gSet 7 (b2 gIdx (fVarW 0) (fz (b2 gAdd (fC (.int 20)) (fVarW 6)))))
  (gSeq (gSet 8 (fz (fLst (fsCons (b2 gMod (fVarW 7) (fC (.int 7))) (fsCons (fVar 2) (fsCons (fz (b2 gAdd (fz (b2 gMul (fVarW 2) (fC (.int 8)))) (b2 gMod (fVarW 7) (fz (b2 gAdd (fVarW 2) (fC (.int 3))))))) (fsCons (fz (b2 gAdd (fz (b2 gMul (fVarW 2) (fC (.int 89)))) (b2 gMod (fVarW 7) (fz (b2 gAdd (fVarW 2) (fC (.int 3))))))) (fsCons (b2 gMod (fVarW 7) (fz (b2 gMul (fC (.int 3)) (fVarW 2)))) fsNil))))))))
  (gSeq (gApp 4 (fTup (fsCons (fC (.str "text")) (fsCons (b2 gIdx (fVarW 8) (b2 gMod (b2 gFdiv (fVarW 7) (fC (.int 7))) (fC (.int 5)))) fsNil))))
  gNil)))
def L__law_document_2 : Rho → Option Fl :=
  (gSeq (gApp 4 (fTup (fsCons (fC (.str "ref")) (fsCons (b2 gIdx (fVarW 3) (b2 gMod (b2 gIdx (fVarW 0) (fz (b2 gAdd (fC (.int 10)) (fVarW 6)))) (u1 gLen (fVarW 3)))) fsNil))))
  gNil)
def B__law_document : Rho → Option Fl :=
  (gSeq (gSet 2 (b2 gIdx (fz (fLst (fsCons (fC (.int 1)) (fsCons (fC (.int 3)) (fsCons (fC (.int 10)) (fsCons (fC (.int 97)) fsNil)))))) (b2 gMod (b2 gIdx (fVarW 0) (fC (.int 0))) (fC (.int 4)))))
  (gSeq (gSet 3 (fz (fSl (fz (fLst (fsCons (fC (.str "a")) (fsCons (fC (.str "b")) (fsCons (fC (.str "cc")) (fsCons (fC (.str "dog")) (fsCons (fC (.str "e")) (fsCons (fC (.str "f")) (fsCons (fC (.str "g")) (fsCons (fC (.str "h")) fsNil)))))))))) oNone (oSome (fz (b2 gAdd (fC (.int 1)) (b2 gMod (b2 gIdx (fVarW 0) (fC (.int 1))) (fVarW 1))))))))
  (gSeq (gSet 4 (fComp (fSeq (fVar 3)) [5] (tName 5) cYes (fTup (fsCons (fC (.str "mark")) (fsCons (fVar 5) fsNil)))))
  (gSeq (gFor (fRng rng1 (fsCons (b2 gMod (b2 gIdx (fVarW 0) (fC (.int 2))) (fC (.int 7))) fsNil)) (tName 6) L__law_document_2)
  (gSeq (gFor (fRng rng1 (fsCons (b2 gMod (b2 gIdx (fVarW 0) (fC (.int 3))) (fC (.int 6))) fsNil)) (tName 6) L__law_document_1)
  (gSeq (gSet 4 (b2 gAdd (fVarW 4) (fz (b2 gMul (fz (fLst (fsCons (fTup (fsCons (fC (.str "break")) fsNil)) fsNil))) (b2 gMod (b2 gFdiv (b2 gIdx (fVarW 0) (fC (.int 4))) (fC (.int 3))) (fC (.int 3)))))))
  (gSeq (gSet 9 (fTup fsNil))
  (gSeq (gWhile (tb (b2 gNe (fVarW 4) (fz (fLst fsNil)))) L__law_document_0)
  (gSeq (gRet (fTup (fsCons (fVar 9) (fsCons (fVar 2) fsNil))))
  gNil)))))))))
def M__law_document : List D → Option D := runF 11 B__law_document
/-- _law_start: 0 digits, 1 document, 2 found, 3 item, 4 digit -/
def L__law_start_0 : Rho → Option Fl :=
  (gSeq (gIf (tb (b2 gEq (b2 gIdx (fVarW 3) (fC (.int 0))) (fC (.str "mark")))) (gSeq (gSet 4 (b2 gIdx (fVarW 0) (u1 gLen (fVarW 2))))
  (gSeq (gSet 2 (fz (b2 gAdd (fVarW 2) (fTup (fsCons (b2 gIdx (fz (fLst (fsCons (fC (.int 1)) (fsCons (fC (.int 9)) (fsCons (fC (.int 10)) (fsCons (fC (.int 99)) (fsCons (fC (.int 100)) (fsCons (fz (b2 gAdd (fC (.int 1)) (fVarW 4))) (fsCons (b2 gPow (fC (.int 10)) (fC (.int 9))) fsNil))))))))) (b2 gMod (fVarW 4) (fC (.int 7)))) fsNil)))))
  gNil)) gNil)
  gNil)
def B__law_start : Rho → Option Fl :=
  (gSeq (gSet 2 (fTup fsNil))
  (gSeq (gFor (fSeq (fVar 1)) (tName 3) L__law_start_0)
  (gSeq (gRet (fVar 2))
  gNil)))
def M__law_start : List D → Option D := runF 5 B__law_start
/-- _law_names: 0 document, 1 item -/
def B__law_names : Rho → Option Fl :=
  (gSeq (gRet (fComp (fSeq (fVar 0)) [1] (tName 1) (tb (b2 gEq (b2 gIdx (fVarW 1) (fC (.int 0))) (fC (.str "mark")))) (b2 gIdx (fVarW 1) (fC (.int 1)))))
  gNil)
def M__law_names : List D → Option D := runF 2 B__law_names
/-- starts: 0 document, 1 size, 2 numbering, 3 printed, 4 name, 5 number, 6 result, 7 place, 8 item -/
def L_starts_0 : Rho → Option Fl :=
  (gSeq (gApp 6 (fVar 7))
  (gSeq (gIf (tb (b2 gEq (b2 gIdx (fVarW 8) (fC (.int 0))) (fC (.str "text")))) (gSeq (gAug 7 (b2 gIdx (fVarW 8) (fC (.int 1))))
  gNil) (gSeq (gIf (tb (b2 gEq (b2 gIdx (fVarW 8) (fC (.int 0))) (fC (.str "ref")))) (gSeq (gAug 7 (u1 gLen (u1 gStr (b2 gDix (fVarW 3) (b2 gIdx (fVarW 8) (fC (.int 1)))))))
  gNil) (gSeq (gIf (tb (b2 gEq (b2 gIdx (fVarW 8) (fC (.int 0))) (fC (.str "break")))) (gSeq (gSet 7 (fz (b2 gMul (b2 gFdiv (b2 gSub (fz (b2 gAdd (fVarW 7) (fVarW 1))) (fC (.int 1))) (fVarW 1)) (fVarW 1))))
  gNil) gNil)
  gNil))
  gNil))
  gNil))
def B_starts : Rho → Option Fl :=
  (gSeq (gSet 3 (fDcomp (fZip (fz (fCall 1 M_mark_names (fsCons (fVar 0) fsNil))) (fVar 2)) [4, 5] (tTup 2 (tCons (tName 4) (tCons (tName 5) tNil))) cYes (fVar 4) (fVar 5)))
  (gSeq (gPar2 6 7 (fLst fsNil) (fC (.int 0)))
  (gSeq (gFor (fSeq (fVar 0)) (tName 8) L_starts_0)
  (gSeq (gRetV 6)
  gNil))))
def M_starts : List D → Option D := runF 9 B_starts
/-- _law_digits: 0 script, 1 index, 2 count, 3 base, 4 primes, 5 cell, 6 rest, 7 digits, 8 k, 9 mixed -/
def L__law_digits_0 : Rho → Option Fl :=
  (gSeq (gSet 9 (fz (b2 gMul (b2 gMod (fVarW 5) (b2 gIdx (fVarW 4) (b2 gMod (fVarW 8) (fC (.int 8))))) (fz (b2 gAdd (fC (.int 48271)) (fz (b2 gMul (fz (b2 gMul (fC (.int 2)) (fVarW 8))) (fVarW 8))))))))
  (gSeq (gSet 9 (fz (b2 gAdd (fz (b2 gAdd (fVarW 9) (fz (b2 gMul (fz (b2 gMul (fC (.int 7919)) (fz (b2 gAdd (fVarW 8) (fC (.int 1)))))) (fz (b2 gAdd (fVarW 8) (fC (.int 1)))))))) (fz (b2 gMul (fC (.int 104729)) (fVarW 1))))))
  (gSeq (gSet 9 (b2 gMod (fVarW 9) (b2 gIdx (fVarW 4) (b2 gMod (fz (b2 gAdd (fz (b2 gMul (fC (.int 3)) (fVarW 8))) (fVarW 1))) (fC (.int 8))))))
  (gSeq (gSet 9 (b2 gMod (fz (b2 gMul (fz (b2 gMul (fVarW 9) (fVarW 9))) (fVarW 9))) (b2 gIdx (fVarW 4) (b2 gMod (fz (b2 gAdd (fVarW 8) (fC (.int 5)))) (fC (.int 8))))))
  (gSeq (gIf (tb (b2 gGt (fVarW 6) (fC (.int 0)))) (gSeq (gSet 9 (fVar 6))
  gNil) gNil)
  (gSeq (gApp 7 (b2 gMod (fVarW 9) (fVarW 3)))
  (gSeq (gSet 6 (b2 gFdiv (fVarW 6) (fVarW 3)))
  gNil)))))))
def B__law_digits : Rho → Option Fl :=
  (gSeq (gSet 4 (fTup (fsCons (fC (.int 2147483647)) (fsCons (fC (.int 2147483629)) (fsCons (fC (.int 2147483587)) (fsCons (fC (.int 2147483579)) (fsCons (fC (.int 2147483563)) (fsCons (fC (.int 2147483549)) (fsCons (fC (.int 2147483543)) (fsCons (fC (.int 2147483497)) fsNil))))))))))
  (gSeq (gSet 5 (fz (fCall 2 M__law_cell (fsCons (fVar 0) (fsCons (fVar 1) fsNil)))))
  (gSeq (gSet 6 (fIf (tb (b2 gGe (fVarW 5) (b2 gPow (fC (.int 10)) (fC (.int 18))))) (fVar 5) (fC (.int 0))))
  (gSeq (gSet 7 (fLst fsNil))
  (gSeq (gFor (fRng rng1 (fsCons (fVar 2) fsNil)) (tName 8) L__law_digits_0)
  (gSeq (gRetV 7)
  gNil))))))
def M__law_digits : List D → Option D := runF 10 B__law_digits
/-- _law_places: 0 document, 1 size, 2 numbering, 3 places, 4 place, 5 item -/
def L__law_places_0 : Rho → Option Fl :=
  (gSeq (gSet 4 (fz (b2 gAdd (fVarW 4) (fC (.int 1)))))
  gNil)
def L__law_places_1 : Rho → Option Fl :=
  (gSeq (gApp 3 (fVar 4))
  (gSeq (gIf (tb (b2 gEq (b2 gIdx (fVarW 5) (fC (.int 0))) (fC (.str "text")))) (gSeq (gSet 4 (fz (b2 gAdd (fVarW 4) (b2 gIdx (fVarW 5) (fC (.int 1))))))
  gNil) gNil)
  (gSeq (gIf (tb (b2 gEq (b2 gIdx (fVarW 5) (fC (.int 0))) (fC (.str "ref")))) (gSeq (gSet 4 (fz (b2 gAdd (fVarW 4) (u1 gLen (u1 gStr (b2 gIdx (fVarW 2) (b2 gIndex (fz (fCall 1 M__law_names (fsCons (fVar 0) fsNil))) (b2 gIdx (fVarW 5) (fC (.int 1))))))))))
  gNil) gNil)
  (gSeq (gWhile (fAnd (tb (b2 gEq (b2 gIdx (fVarW 5) (fC (.int 0))) (fC (.str "break")))) (tb (b2 gGt (b2 gMod (fVarW 4) (fVarW 1)) (fC (.int 0))))) L__law_places_0)
  gNil))))
def B__law_places : Rho → Option Fl :=
  (gSeq (gPar2 3 4 (fLst fsNil) (fC (.int 0)))
  (gSeq (gFor (fSeq (fVar 0)) (tName 5) L__law_places_1)
  (gSeq (gRetV 3)
  gNil)))
def M__law_places : List D → Option D := runF 6 B__law_places
/-- pages: 0 document, 1 size, 2 numbering, 3 places, 4 item, 5 place -/
def B_pages : Rho → Option Fl :=
  (gSeq (gSet 3 (fz (fCall 3 M_starts (fsCons (fVar 0) (fsCons (fVar 1) (fsCons (fVar 2) fsNil))))))
  (gSeq (gRet (u1 gTuple (fz (fComp (fZip (fVar 0) (fVar 3)) [4, 5] (tTup 2 (tCons (tName 4) (tCons (tName 5) tNil))) (tb (b2 gEq (b2 gIdx (fVarW 4) (fC (.int 0))) (fC (.str "mark")))) (fz (b2 gAdd (b2 gFdiv (fVarW 5) (fVarW 1)) (fC (.int 1))))))))
  gNil))
def M_pages : List D → Option D := runF 6 B_pages
/-- _law_pages: 0 document, 1 size, 2 numbering, 3 places, 4 found, 5 item, 6 place -/
def L__law_pages_0 : Rho → Option Fl :=
  (gSeq (gIf (tb (b2 gEq (b2 gIdx (fVarW 5) (fC (.int 0))) (fC (.str "mark")))) (gSeq (gSet 4 (fz (b2 gAdd (fVarW 4) (fTup (fsCons (fz (b2 gAdd (b2 gFdiv (fVarW 6) (fVarW 1)) (fC (.int 1)))) fsNil)))))
  gNil) gNil)
  gNil)
def B__law_pages : Rho → Option Fl :=
  (gSeq (gPar2 3 4 (fz (fCall 3 M__law_places (fsCons (fVar 0) (fsCons (fVar 1) (fsCons (fVar 2) fsNil))))) (fTup fsNil))
  (gSeq (gFor (fZip (fVar 0) (fVar 3)) (tTup 2 (tCons (tName 5) (tCons (tName 6) tNil))) L__law_pages_0)
  (gSeq (gRet (fVar 4))
  gNil)))
def M__law_pages : List D → Option D := runF 7 B__law_pages
/-- is_consistent: 0 document, 1 size, 2 numbering -/
def B_is_consistent : Rho → Option Fl :=
  (gSeq (gRet (b2 gEq (fz (fCall 3 M_pages (fsCons (fVar 0) (fsCons (fVar 1) (fsCons (fVar 2) fsNil))))) (fVarW 2)))
  gNil)
def M_is_consistent : List D → Option D := runF 3 B_is_consistent
/-- _law_below: 0 one, 1 other, 2 first, 3 second -/
def B__law_below : Rho → Option Fl :=
  (gSeq (gRet (b2 gEq (fz (fComp (fZip (fVar 0) (fVar 1)) [2, 3] (tTup 2 (tCons (tName 2) (tCons (tName 3) tNil))) (tb (b2 gGt (fVarW 2) (fVarW 3))) (fC (.int 1)))) (fz (fLst fsNil))))
  gNil)
def M__law_below : List D → Option D := runF 4 B__law_below
/-- runs: 0 document, 1 size, 2 start, 3 seen, 4 numbering -/
def L_runs_0 : GFl :=
  (hSeq (hPl (gApp 3 (fVar 4)))
  (hSeq (hYield (fVar 4))
  (hSeq (hPl (gSet 4 (fz (fCall 3 M_pages (fsCons (fVar 0) (fsCons (fVar 1) (fsCons (fVar 4) fsNil)))))))
  hNil)))
def B_runs : GFl :=
  (hSeq (hPl (gPar2 3 4 (fLst fsNil) (fVar 2)))
  (hSeq (hWhile (tb (b2 gNotIn (fVarW 4) (fVarW 3))) L_runs_0)
  hNil))
def G_runs : List D → Option (List D) := runG 5 B_runs
/-- _law_settled: 0 document, 1 wide, 2 numbering, 3 later -/
def L__law_settled_0 : Rho → Option Fl :=
  (gSeq (gSet 2 (fVar 3))
  (gSeq (gSet 3 (fz (fCall 3 M__law_pages (fsCons (fVar 0) (fsCons (fVar 1) (fsCons (fVar 2) fsNil))))))
  gNil))
def B__law_settled : Rho → Option Fl :=
  (gSeq (gSet 3 (fz (fCall 3 M__law_pages (fsCons (fVar 0) (fsCons (fVar 1) (fsCons (fVar 2) fsNil))))))
  (gSeq (gWhile (tb (b2 gNe (fVarW 3) (fVarW 2))) L__law_settled_0)
  (gSeq (gRet (fVar 2))
  gNil)))
def M__law_settled : List D → Option D := runF 4 B__law_settled
/-- _law_least: 0 document, 1 wide -/
def B__law_least : Rho → Option Fl :=
  (gSeq (gRet (fCall 3 M__law_settled (fsCons (fVar 0) (fsCons (fVar 1) (fsCons (fz (b2 gMul (fTup (fsCons (fC (.int 1)) fsNil)) (u1 gLen (fz (fCall 1 M__law_names (fsCons (fVar 0) fsNil)))))) fsNil)))))
  gNil)
def M__law_least : List D → Option D := runF 2 B__law_least
/-- _law_greatest: 0 document, 1 wide -/
def B__law_greatest : Rho → Option Fl :=
  (gSeq (gRet (fCall 3 M__law_settled (fsCons (fVar 0) (fsCons (fVar 1) (fsCons (fz (b2 gMul (fTup (fsCons (b2 gPow (fC (.int 10)) (fC (.int 9))) fsNil)) (u1 gLen (fz (fCall 1 M__law_names (fsCons (fVar 0) fsNil)))))) fsNil)))))
  gNil)
def M__law_greatest : List D → Option D := runF 2 B__law_greatest
/-- ending: 0 document, 1 size, 2 start, 3 found, 4 first -/
def B_ending : Rho → Option Fl :=
  (gSeq (gSet 3 (fz (fGen 3 G_runs (fsCons (fVar 0) (fsCons (fVar 1) (fsCons (fVar 2) fsNil))))))
  (gSeq (gSet 4 (b2 gIndex (fVarW 3) (fz (fCall 3 M_pages (fsCons (fVar 0) (fsCons (fVar 1) (fsCons (b2 gIdx (fVarW 3) (fNeg (fC (.int 1)))) fsNil)))))))
  (gSeq (gRet (fTup (fsCons (fVar 4) (fsCons (b2 gSub (u1 gLen (fVarW 3)) (fVarW 4)) fsNil))))
  gNil)))
def M_ending : List D → Option D := runF 5 B_ending
/-- settled: 0 document, 1 size, 2 start, 3 first, 4 period -/
def B_settled : Rho → Option Fl :=
  (gSeq (gAsg (tTup 2 (tCons (tName 3) (tCons (tName 4) tNil))) (fz (fCall 3 M_ending (fsCons (fVar 0) (fsCons (fVar 1) (fsCons (fVar 2) fsNil))))))
  (gSeq (gRet (fIf (tb (b2 gEq (fVarW 4) (fC (.int 1)))) (b2 gIdx (fz (fGen 3 G_runs (fsCons (fVar 0) (fsCons (fVar 1) (fsCons (fVar 2) fsNil))))) (fVarW 3)) (fC .non)))
  gNil))
def M_settled : List D → Option D := runF 5 B_settled
/-- least: 0 document, 1 size -/
def B_least : Rho → Option Fl :=
  (gSeq (gRet (fCall 3 M_settled (fsCons (fVar 0) (fsCons (fVar 1) (fsCons (fz (b2 gMul (fTup (fsCons (fC (.int 1)) fsNil)) (u1 gLen (fz (fCall 1 M_mark_names (fsCons (fVar 0) fsNil)))))) fsNil)))))
  gNil)
def M_least : List D → Option D := runF 2 B_least
/-- greatest: 0 document, 1 size -/
def B_greatest : Rho → Option Fl :=
  (gSeq (gRet (fCall 3 M_settled (fsCons (fVar 0) (fsCons (fVar 1) (fsCons (fz (b2 gMul (fTup (fsCons (fC (.int 1000000000)) fsNil)) (u1 gLen (fz (fCall 1 M_mark_names (fsCons (fVar 0) fsNil)))))) fsNil)))))
  gNil)
def M_greatest : List D → Option D := runF 2 B_greatest
/-- ten_to: 0 exponent, 1 result, 2 turn -/
def L_ten_to_0 : Rho → Option Fl :=
  (gSeq (gSet 1 (fz (b2 gMul (fC (.int 10)) (fVarW 1))))
  gNil)
def B_ten_to : Rho → Option Fl :=
  (gSeq (gSet 1 (fC (.int 1)))
  (gSeq (gFor (fRng rng1 (fsCons (fVar 0) fsNil)) (tName 2) L_ten_to_0)
  (gSeq (gRet (fVar 1))
  gNil)))
def M_ten_to : List D → Option D := runF 3 B_ten_to
/-- _law_all: 0 document, 1 wide, 2 rows, 3 turn, 4 longer, 5 row, 6 number, 7 found, 8 later -/
def L__law_all_0 : Rho → Option Fl :=
  (gSeq (gSet 8 (fz (fCall 3 M__law_pages (fsCons (fVar 0) (fsCons (fVar 1) (fsCons (fVar 5) fsNil))))))
  (gSeq (gIf (fAnd (tb (b2 gEq (fz (fCall 3 M__law_pages (fsCons (fVar 0) (fsCons (fVar 1) (fsCons (fVar 8) fsNil))))) (fVarW 8))) (tb (b2 gNotIn (fVarW 8) (fVarW 7)))) (gSeq (gApp 7 (fVar 8))
  gNil) gNil)
  gNil))
def L__law_all_1 : Rho → Option Fl :=
  (gSeq (gSet 4 (fz (b2 gAdd (fVarW 4) (fz (fComp (fSeq (fTup (fsCons (fC (.int 1)) (fsCons (fC (.int 10)) (fsCons (fC (.int 100)) (fsCons (fC (.int 1000)) fsNil)))))) [6] (tName 6) cYes (fz (b2 gAdd (fVarW 5) (fTup (fsCons (fVar 6) fsNil)))))))))
  gNil)
def L__law_all_2 : Rho → Option Fl :=
  (gSeq (gSet 4 (fz (fLst fsNil)))
  (gSeq (gFor (fSeq (fVar 2)) (tName 5) L__law_all_1)
  (gSeq (gSet 2 (fVar 4))
  gNil)))
def B__law_all : Rho → Option Fl :=
  (gSeq (gSet 2 (fz (fLst (fsCons (fTup fsNil) fsNil))))
  (gSeq (gFor (fRng rng1 (fsCons (u1 gLen (fz (fCall 1 M__law_names (fsCons (fVar 0) fsNil)))) fsNil)) (tName 3) L__law_all_2)
  (gSeq (gSet 7 (fLst fsNil))
  (gSeq (gFor (fSeq (fVar 2)) (tName 5) L__law_all_0)
  (gSeq (gRet (u1 gSorted (fVarW 7)))
  gNil)))))
def M__law_all : List D → Option D := runF 9 B__law_all
/-- all_consistent: 0 document, 1 size, 2 rows, 3 low, 4 high, 5 numbers, 6 k, 7 row, 8 number, 9 found, 10 numbering -/
def L_all_consistent_0 : Rho → Option Fl :=
  (gSeq (gSet 10 (fz (fCall 3 M_pages (fsCons (fVar 0) (fsCons (fVar 1) (fsCons (fVar 7) fsNil))))))
  (gSeq (gIf (fAnd (tb (fz (fCall 3 M_is_consistent (fsCons (fVar 0) (fsCons (fVar 1) (fsCons (fVar 10) fsNil)))))) (tb (b2 gNotIn (fVarW 10) (fVarW 9)))) (gSeq (gApp 9 (fVar 10))
  gNil) gNil)
  gNil))
def L_all_consistent_1 : Rho → Option Fl :=
  (gSeq (gSet 5 (fz (b2 gAdd (fz (fLst (fsCons (fVar 3) fsNil))) (fz (fComp (fRng rng2 (fsCons (u1 gLen (u1 gStr (fVarW 3))) (fsCons (u1 gLen (u1 gStr (fVarW 4))) fsNil))) [6] (tName 6) cYes (fz (fCall 1 M_ten_to (fsCons (fVar 6) fsNil))))))))
  (gSeq (gSet 2 (fz (fComp2 (fSeq (fVar 2)) [7, 8] (tName 7) (fSeq (fVar 5)) [8] (tName 8) (fz (b2 gAdd (fVarW 7) (fTup (fsCons (fVar 8) fsNil)))))))
  gNil))
def B_all_consistent : Rho → Option Fl :=
  (gSeq (gSet 2 (fz (fLst (fsCons (fTup fsNil) fsNil))))
  (gSeq (gFor (fZip (fz (fCall 2 M_least (fsCons (fVar 0) (fsCons (fVar 1) fsNil)))) (fz (fCall 2 M_greatest (fsCons (fVar 0) (fsCons (fVar 1) fsNil))))) (tTup 2 (tCons (tName 3) (tCons (tName 4) tNil))) L_all_consistent_1)
  (gSeq (gSet 9 (fLst fsNil))
  (gSeq (gFor (fSeq (fVar 2)) (tName 7) L_all_consistent_0)
  (gSeq (gRet (u1 gSorted (fVarW 9)))
  gNil)))))
def M_all_consistent : List D → Option D := runF 11 B_all_consistent
/-- _law_behind: 0 document, 1 early, 2 names, 3 item, 4 kept, 5 soon -/
def L__law_behind_0 : Rho → Option Fl :=
  (gSeq (gIf (tb (b2 gEq (b2 gIdx (fVarW 3) (fC (.int 0))) (fC (.str "mark")))) (gSeq (gApp 2 (b2 gIdx (fVarW 3) (fC (.int 1))))
  gNil) gNil)
  (gSeq (gApp 1 (vAnd (b2 gEq (b2 gIdx (fVarW 3) (fC (.int 0))) (fC (.str "ref"))) (b2 gNotIn (b2 gIdx (fVarW 3) (fC (.int 1))) (fVarW 2))))
  gNil))
def B__law_behind : Rho → Option Fl :=
  (gSeq (gPar2 1 2 (fLst fsNil) (fLst fsNil))
  (gSeq (gFor (fSeq (fVar 0)) (tName 3) L__law_behind_0)
  (gSeq (gIceT 1 (gSet 4 (fz (fComp (fZip (fVar 0) (fVar 1)) [3, 5] (tTup 2 (tCons (tName 3) (tCons (tName 5) tNil))) (nb (tb (fVar 5))) (fVar 3)))))
  (gSeq (gIceT 1 (gRet (u1 gTuple (fz (b2 gAdd (fVarW 4) (fz (fComp (fZip (fVar 0) (fVar 1)) [3, 5] (tTup 2 (tCons (tName 3) (tCons (tName 5) tNil))) (tb (fVar 5)) (fVar 3))))))))
  gNil))))
def M__law_behind : List D → Option D := runF 6 B__law_behind
/-- with_length: 0 document, 1 index, 2 length -/
def B_with_length : Rho → Option Fl :=
  (gSeq (gRet (b2 gAdd (fz (b2 gAdd (fz (fSl (fVarW 0) oNone (oSome (fVarW 1)))) (fTup (fsCons (fTup (fsCons (fC (.str "text")) (fsCons (fVar 2) fsNil))) fsNil)))) (fz (fSl (fVarW 0) (oSome (fz (b2 gAdd (fVarW 1) (fC (.int 1))))) oNone))))
  gNil)
def M_with_length : List D → Option D := runF 3 B_with_length
/-- _law_with: 0 document, 1 k, 2 long -/
def B__law_with : Rho → Option Fl :=
  (gSeq (gRet (b2 gAdd (fz (b2 gAdd (fz (fSl (fVarW 0) oNone (oSome (fVarW 1)))) (fTup (fsCons (fTup (fsCons (fC (.str "text")) (fsCons (fVar 2) fsNil))) fsNil)))) (fz (fSl (fVarW 0) (oSome (fz (b2 gAdd (fVarW 1) (fC (.int 1))))) oNone))))
  gNil)
def M__law_with : List D → Option D := runF 3 B__law_with
/-- _law_page: 0 document, 1 wide, 2 name -/
def B__law_page : Rho → Option Fl :=
  (gSeq (gRet (b2 gIdx (fz (fCall 2 M__law_least (fsCons (fVar 0) (fsCons (fVar 1) fsNil)))) (b2 gIndex (fz (fCall 1 M__law_names (fsCons (fVar 0) fsNil))) (fVar 2))))
  gNil)
def M__law_page : List D → Option D := runF 3 B__law_page
/-- page_with: 0 document, 1 size, 2 index, 3 name, 4 length, 5 changed -/
def B_page_with : Rho → Option Fl :=
  (gSeq (gSet 5 (fz (fCall 3 M_with_length (fsCons (fVar 0) (fsCons (fVar 2) (fsCons (fVar 4) fsNil))))))
  (gSeq (gRet (b2 gIdx (fz (fCall 2 M_least (fsCons (fVar 5) (fsCons (fVar 1) fsNil)))) (b2 gIndex (fz (fCall 1 M_mark_names (fsCons (fVar 0) fsNil))) (fVar 3))))
  gNil))
def M_page_with : List D → Option D := runF 6 B_page_with
/-- least_length: 0 document, 1 size, 2 index, 3 name, 4 page, 5 low, 6 high, 7 middle -/
def L_least_length_0 : Rho → Option Fl :=
  (gSeq (gSet 7 (b2 gFdiv (fz (b2 gAdd (fVarW 5) (fVarW 6))) (fC (.int 2))))
  (gSeq (gIf (fOr (tb (b2 gEq (fVarW 7) (fC (.int 1000001)))) (tb (b2 gGe (fz (fCall 5 M_page_with (fsCons (fVar 0) (fsCons (fVar 1) (fsCons (fVar 2) (fsCons (fVar 3) (fsCons (fVar 7) fsNil))))))) (fVarW 4)))) (gSeq (gSet 6 (fVar 7))
  gNil) (gSeq (gSet 5 (fz (b2 gAdd (fVarW 7) (fC (.int 1)))))
  gNil))
  gNil))
def B_least_length : Rho → Option Fl :=
  (gSeq (gAsg (tTup 2 (tCons (tName 5) (tCons (tName 6) tNil))) (fTup (fsCons (fC (.int 0)) (fsCons (fC (.int 1000001)) fsNil))))
  (gSeq (gWhile (tb (b2 gLt (fVarW 5) (fVarW 6))) L_least_length_0)
  (gSeq (gRet (fIf (tb (b2 gLe (fVarW 5) (fC (.int 1000000)))) (fVar 5) (fC .non)))
  gNil)))
def M_least_length : List D → Option D := runF 8 B_least_length
/-- fitting_lengths: 0 document, 1 size, 2 index, 3 name, 4 page, 5 low, 6 behind -/
def B_fitting_lengths : Rho → Option Fl :=
  (gSeq (gSet 5 (fz (fCall 5 M_least_length (fsCons (fVar 0) (fsCons (fVar 1) (fsCons (fVar 2) (fsCons (fVar 3) (fsCons (fVar 4) fsNil))))))))
  (gSeq (gIf (fOr (tb (b2 gIs (fVarW 5) (fC .non))) (tb (b2 gNe (fz (fCall 5 M_page_with (fsCons (fVar 0) (fsCons (fVar 1) (fsCons (fVar 2) (fsCons (fVar 3) (fsCons (fVar 5) fsNil))))))) (fVarW 4)))) (gSeq (gRet (fC .non))
  gNil) gNil)
  (gSeq (gSet 6 (fz (fCall 5 M_least_length (fsCons (fVar 0) (fsCons (fVar 1) (fsCons (fVar 2) (fsCons (fVar 3) (fsCons (fz (b2 gAdd (fVarW 4) (fC (.int 1)))) fsNil))))))))
  (gSeq (gRet (fTup (fsCons (fVar 5) (fsCons (fIf (tb (b2 gIs (fVarW 6) (fC .non))) (fC (.int 1000000)) (b2 gSub (fVarW 6) (fC (.int 1)))) fsNil))))
  gNil))))
def M_fitting_lengths : List D → Option D := runF 7 B_fitting_lengths
/-- _law_right: 0 document, 1 wide, 2 k, 3 name, 4 wanted, 5 low, 6 found, 7 top, 8 before, 9 long -/
def L__law_right_0 : Rho → Option Fl :=
  (gSeq (gIf (tb (b2 gNe (fz (fCall 3 M__law_page (fsCons (fz (fCall 3 M__law_with (fsCons (fVar 0) (fsCons (fVar 2) (fsCons (fVar 9) fsNil))))) (fsCons (fVar 1) (fsCons (fVar 3) fsNil))))) (fVarW 4))) (gSeq (gRet (fC (.bl false)))
  gNil) gNil)
  gNil)
def B__law_right : Rho → Option Fl :=
  (gSeq (gSet 5 (fz (fCall 5 M_least_length (fsCons (fVar 0) (fsCons (fVar 1) (fsCons (fVar 2) (fsCons (fVar 3) (fsCons (fVar 4) fsNil))))))))
  (gSeq (gSet 6 (fz (fCall 5 M_fitting_lengths (fsCons (fVar 0) (fsCons (fVar 1) (fsCons (fVar 2) (fsCons (fVar 3) (fsCons (fVar 4) fsNil))))))))
  (gSeq (gSet 7 (fz (fCall 3 M__law_page (fsCons (fz (fCall 3 M__law_with (fsCons (fVar 0) (fsCons (fVar 2) (fsCons (b2 gPow (fC (.int 10)) (fC (.int 6))) fsNil))))) (fsCons (fVar 1) (fsCons (fVar 3) fsNil))))))
  (gSeq (gIf (tb (b2 gNe (b2 gIs (fVarW 5) (fC .non)) (b2 gLt (fVarW 7) (fVarW 4)))) (gSeq (gRet (fC (.bl false)))
  gNil) gNil)
  (gSeq (gIf (tb (b2 gIsNot (fVarW 5) (fC .non))) (gSeq (gIf (fOr (nb (tb (b3 gLe gLe (fC (.int 0)) (fVarW 5) (b2 gPow (fC (.int 10)) (fC (.int 6)))))) (tb (b2 gLt (fz (fCall 3 M__law_page (fsCons (fz (fCall 3 M__law_with (fsCons (fVar 0) (fsCons (fVar 2) (fsCons (fVar 5) fsNil))))) (fsCons (fVar 1) (fsCons (fVar 3) fsNil))))) (fVarW 4)))) (gSeq (gRet (fC (.bl false)))
  gNil) gNil)
  (gSeq (gSet 8 (fz (fCall 3 M__law_with (fsCons (fVar 0) (fsCons (fVar 2) (fsCons (fArgs gMax (fsCons (fC (.int 0)) (fsCons (b2 gSub (fVarW 5) (fC (.int 1))) fsNil))) fsNil))))))
  (gSeq (gIf (fAnd (tb (b2 gGt (fVarW 5) (fC (.int 0)))) (tb (b2 gGe (fz (fCall 3 M__law_page (fsCons (fVar 8) (fsCons (fVar 1) (fsCons (fVar 3) fsNil))))) (fVarW 4)))) (gSeq (gRet (fC (.bl false)))
  gNil) gNil)
  gNil))) gNil)
  (gSeq (gIf (tb (b2 gIs (fVarW 6) (fC .non))) (gSeq (gRet (vOr (b2 gIs (fVarW 5) (fC .non)) (b2 gGt (fz (fCall 3 M__law_page (fsCons (fz (fCall 3 M__law_with (fsCons (fVar 0) (fsCons (fVar 2) (fsCons (fVar 5) fsNil))))) (fsCons (fVar 1) (fsCons (fVar 3) fsNil))))) (fVarW 4))))
  gNil) gNil)
  (gSeq (gIf (fOr (tb (b2 gNe (b2 gIdx (fVarW 6) (fC (.int 0))) (fVarW 5))) (nb (tb (b3 gLe gLe (fVarW 5) (b2 gIdx (fVarW 6) (fC (.int 1))) (b2 gPow (fC (.int 10)) (fC (.int 6))))))) (gSeq (gRet (fC (.bl false)))
  gNil) gNil)
  (gSeq (gFor (fSeq (fTup (fsCons (fVar 5) (fsCons (b2 gIdx (fVarW 6) (fC (.int 1))) (fsCons (b2 gFdiv (fz (b2 gAdd (fVarW 5) (b2 gIdx (fVarW 6) (fC (.int 1))))) (fC (.int 2))) fsNil))))) (tName 9) L__law_right_0)
  (gSeq (gRet (vOr (b2 gEq (b2 gIdx (fVarW 6) (fC (.int 1))) (b2 gPow (fC (.int 10)) (fC (.int 6)))) (b2 gGt (fz (fCall 3 M__law_page (fsCons (fz (fCall 3 M__law_with (fsCons (fVar 0) (fsCons (fVar 2) (fsCons (fz (b2 gAdd (b2 gIdx (fVarW 6) (fC (.int 1))) (fC (.int 1)))) fsNil))))) (fsCons (fVar 1) (fsCons (fVar 3) fsNil))))) (fVarW 4))))
  gNil)))))))))
def M__law_right : List D → Option D := runF 10 B__law_right
/-- common_lengths: 0 document, 1 size, 2 index, 3 numbering, 4 low, 5 high, 6 name, 7 page, 8 found -/
def L_common_lengths_0 : Rho → Option Fl :=
  (gSeq (gSet 8 (fz (fCall 5 M_fitting_lengths (fsCons (fVar 0) (fsCons (fVar 1) (fsCons (fVar 2) (fsCons (fVar 6) (fsCons (fVar 7) fsNil))))))))
  (gSeq (gIf (tb (b2 gIs (fVarW 8) (fC .non))) (gSeq (gRet (fC .non))
  gNil) gNil)
  (gSeq (gPar2 4 5 (fArgs gMax (fsCons (fVar 4) (fsCons (b2 gIdx (fVarW 8) (fC (.int 0))) fsNil))) (fArgs gMin (fsCons (fVar 5) (fsCons (b2 gIdx (fVarW 8) (fC (.int 1))) fsNil))))
  gNil)))
def B_common_lengths : Rho → Option Fl :=
  (gSeq (gAsg (tTup 2 (tCons (tName 4) (tCons (tName 5) tNil))) (fTup (fsCons (fC (.int 0)) (fsCons (fC (.int 1000000)) fsNil))))
  (gSeq (gFor (fZip (fz (fCall 1 M_mark_names (fsCons (fVar 0) fsNil))) (fVar 3)) (tTup 2 (tCons (tName 6) (tCons (tName 7) tNil))) L_common_lengths_0)
  (gSeq (gRet (fIf (tb (b2 gLe (fVarW 4) (fVarW 5))) (fTup (fsCons (fVar 4) (fsCons (fVar 5) fsNil))) (fC .non)))
  gNil)))
def M_common_lengths : List D → Option D := runF 9 B_common_lengths
/-- _law_digits_of: 0 numbering, 1 number -/
def B__law_digits_of : Rho → Option Fl :=
  (gSeq (gRet (fComp (fSeq (fVar 0)) [1] (tName 1) cYes (u1 gLen (u1 gStr (fVarW 1)))))
  gNil)
def M__law_digits_of : List D → Option D := runF 2 B__law_digits_of
end
end PLaw
/-! ### part PL17 -/
namespace PL
open PySem PySem.Spec PyProof.Rows L2
/-- max of a tuple of ints -/
theorem max_tupX {prog : Program} {w : World} {A : Around} {E : Value → Shared → Prop} {s : Shared} {l : Addr} {its : List Value} {ns : List Int} {Q : Value → Shared → Prop} (hh : A.handled = none) (hl : s.heap.IsTuple l its.toArray) (hi : IntsAre its ns) (hne : 0 < ns.length)
    (h : ∀ h' tk M t', (∀ b o, s.heap.get? b = some o → h'.get? b = some o) → M ∈ ns → (∀ a, a ∈ ns → a ≤ M) → Q (.int M t') { s with heap := h', toks := tk }) : wpAny (model prog w) A (call (.builtin "max") [.ref l]) Q E s := by
  obtain ⟨xs, e⟩ := hi.allInts.items
  have hn : numsOf (intItems xs).toList = ns := by rw [← e]; exact hi.numsOf
  rw [nums_intItems] at hn
  subst hn
  rw [e] at hl
  have hz : 0 < xs.size := by simpa using hne
  have hlt : l < s.heap.objs.size := by obtain ⟨_, e, _⟩ := hl; exact Heap.lt_size e
  refine call_max_walk (wpAny_pyIter_tuple hl ?_)
  refine ⟨_, [_, l], [_], _, _, _, _, rfl, Walks.tuple (A := A.in1) hh _ l (Nat.ne_of_lt hlt) (intItems xs), ⟨⟨_, Heap.get?_push_size _ rfl, rfl, rfl⟩, hl.push _⟩, fun c hc => ?_, by simpa [intItems] using hz, CmpOf.ints_gt (numAt xs) (fun _ _ => intItems_at), fun v h' tk hP hk => ?_⟩
  · show c < (s.heap.push _).objs.size
    rw [Heap.size_push]
    rcases List.mem_cons.mp hc with rfl | hc
    · exact Nat.lt_succ_self _
    · rcases List.mem_cons.mp hc with rfl | hc
      · exact Nat.lt_succ_of_lt hlt
      · cases hc
  · have hold : ∀ c o, s.heap.get? c = some o → h'.get? c = some o := fun c o e => by
      refine hk c o (fun hm => ?_) (Heap.get?_push_of_some _ e)
      rcases List.mem_cons.mp hm with e1 | hm
      · exact absurd (e1 ▸ Heap.lt_size e) (Nat.lt_irrefl _)
      · cases hm
    have hP' : (intItems xs)[argBest (fun i j => decide (numAt xs i > numAt xs j)) (xs.size - 1)]? = some v := by simpa [intItems] using hP
    obtain ⟨t, rfl⟩ := intItems_at hP'
    obtain ⟨h1, h2⟩ := argBest_gt (numAt xs) (xs.size - 1)
    refine h h' tk _ t hold ?_ fun a ha => ?_
    · rw [numAt_eq]; exact PySem.getD_mem (by rw [List.length_map, Array.length_toList]; omega)
    · obtain ⟨j, hj, rfl⟩ := mem_getD ha
      rw [List.length_map, Array.length_toList] at hj
      rw [← numAt_eq]; exact h2 j (by omega)
def rMaxT (K : PySem.W.Frag) : List V → Hp → VK → Prop := fun vs H Q => ∃ (a : Addr) (ns : List Int), vs = [V.ref a] ∧ SqT K H a (ns.map V.int) ∧ 0 < ns.length ∧ ∀ m, m ∈ ns → (∀ y, y ∈ ns → y ≤ m) → Q (.int m) H
theorem cr_maxT {X : Cx} (hc : X.calm = true) : CallR X (.builtin "max") (rMaxT X.K) := by
  intro pins s σ H vs us Q I r h
  obtain ⟨a, ns, rfl, hs, hne, q⟩ := h
  obtain ⟨its, rv, hl, _⟩ := I.tuple hs
  rw [Vals.ref1 r]
  exact max_tupX (its := its) (I.ok.hd hc) hl rv.ints hne fun h' tk m t' hk h1 h2 => ⟨.int _, H, I.kept hk, ⟨_, rfl⟩, q m h1 h2⟩
def maxL : Int → List Int → Int
  | m, [] => m
  | m, x :: r => maxL (if m < x then x else m) r
theorem maxL_mem : ∀ (l : List Int) (m : Int), maxL m l ∈ m :: l
  | [], m => by simp [maxL]
  | x :: r, m => by
    have := maxL_mem r (if m < x then x else m)
    simp only [maxL]
    rcases List.mem_cons.mp this with h | h
    · rw [h]; split <;> simp
    · simp [h]
theorem maxL_ge : ∀ (l : List Int) (m : Int), ∀ y ∈ m :: l, y ≤ maxL m l
  | [], m => by simp [maxL]
  | x :: r, m => by
    have ih := maxL_ge r (if m < x then x else m)
    intro y hy
    simp only [maxL]
    have h0 := ih _ List.mem_cons_self
    rcases List.mem_cons.mp hy with rfl | hy
    · split at h0 <;> split <;> omega
    · rcases List.mem_cons.mp hy with rfl | hy
      · split at h0 <;> split <;> omega
      · exact ih y (by simp [hy])
def gMaxT : D → Option D
  | .tup xs => (intsOf xs).bind fun ns => match ns with
    | [] => none
    | n :: r => some (.int (maxL n r))
  | _ => none
theorem rul_maxT {K : PySem.W.Frag} : RulU K gMaxT (rMaxT K) := fun dx d x H Q r h q => by
  cases dx <;> simp only [gMaxT, reduceCtorEq] at h
  obtain ⟨ns, h1, h2⟩ := Option.bind_eq_some_iff.mp h
  obtain ⟨a, vs, rfl, ha, ra⟩ := repW_tup r
  rw [intsOf_eq h1] at ra
  rw [repL_intsV ra] at ha
  cases ns with
  | nil => simp at h2
  | cons n ns =>
    cases h2
    refine ⟨a, n :: ns, rfl, ha, by simp, fun m h3 h4 => ?_⟩
    have e : m = maxL n ns := Int.le_antisymm (maxL_ge ns n m h3) (h4 _ (maxL_mem ns n))
    rw [e]
    exact q _ H (Same.refl H) (RepM.of repF_int)
section
variable {X : Cx} {a : Expr} {fa : Rho → Option D} {pos : Pos}
theorem fe_maxT {p : Pos} (hc : X.calm = true) (hg : Gl X "max") (hm : X.mg "max" = none) (ha : WE X a fa) (he : starEach [a] X.env = (false, eval a X.env) :: starEach [] X.env := by rfl) (hpl : (backTo pos (starEach [] X.env)).any (·.1) = false := by rfl) :
    FE X (.Call (.Name "max" p) [a] [] pos) (u1 gMaxT fa) :=
  fe_of_plain (fun x d h ds => by
      cases x <;> simp only [gMaxT, reduceCtorEq] at h
      obtain ⟨ns, _, h2⟩ := Option.bind_eq_some_iff.mp h
      cases ns with
      | nil => simp at h2
      | cons n ns => cases h2; exact fun z => nomatch z)
    (me_callB (id := "max") (cr_maxT hc) rul_maxT hg hm (by decide +kernel) ha (by decide) (by decide) he hpl)
end
end PL
/-! ### part PLE -/
namespace PySem
open PySem.Calls PyProof.Rows
/-- enumerate(v), v told by what its iterator draws -/
theorem meets_enumerate_new1B {v : Value} {o : Obj} {H : Heap → Prop} (B : Begins v o H) :
    Meets (Builtin.«enumerate.__new__» ⟨[.type "enumerate", v], []⟩) (fun _ R s => H s.heap ∧
      R (.ok (.ret (.ref (s.heap.push o).objs.size))) { s with heap := (s.heap.push o).push { cls := .type "enumerate", data := .fields #[.none, .bool false, .ref s.heap.objs.size, rawInt 0, .none, .none] } }) :=
  .of_wp fun prog w A R s h => by
    obtain ⟨hp, g, d, tk, os⟩ := s; obtain ⟨h1, h⟩ := h
    have hsub := sub_enumerate
    have q1 : ∀ {A' : Around} {E : Value → Shared → Prop} {Q : Value → Shared → Prop}, Q (.ref hp.objs.size) ⟨hp.push o, g, d, tk, os⟩ → wpAny (model prog w) A' (pyIter v) Q E ⟨hp, g, d, tk, os⟩ :=
      fun q => B.iter prog w _ _ ⟨hp, g, d, tk, os⟩ _ h1 q
    wp_walk using q1
    refine wpAny_stack_any fun st => wpAny_pure ?_
    split
    · rename_i c _ _ _ _ _
      cases (c == Value.type "enumerate")
      · wp_walk using q1
        exact ⟨_, rfl, h⟩
      · wp_walk using q1
        exact ⟨_, rfl, h⟩
    · wp_walk using q1
      exact ⟨_, rfl, h⟩
theorem call_enumerate_1B {prog : Program} {w : World} {A : Around} {E : Value → Shared → Prop} {s : Shared} {v : Value} {o : Obj} {H : Heap → Prop} {Q : Value → Shared → Prop} (B : Begins v o H) (h1 : H s.heap)
    (h : ∀ h', IsEnum h' (s.heap.objs.size + 1) s.heap.objs.size 0 .none → h'.get? s.heap.objs.size = some o → h'.objs.size = s.heap.objs.size + 2 →
      (∀ b o, s.heap.get? b = some o → h'.get? b = some o) → Q (.ref (s.heap.objs.size + 1)) { s with heap := h' }) :
    wpAny (model prog w) A (call (.type "enumerate") [v]) Q E s := by
  refine callType_new F.called_enumerate (by decide) (F.typeCall_enumerate_1 _) (F.newCall_enumerate_1 _) (fun obj => F.args_object_init_2 obj _) F.entry_enumerate_new
    (meets_enumerate_new1B B) ⟨h1, ?_⟩
  have hz : (s.heap.push o).objs.size = s.heap.objs.size + 1 := Heap.size_push ..
  show _ ∧ _
  rw [hz]
  have he : IsEnum ((s.heap.push o).push { cls := .type "enumerate", data := .fields #[.none, .bool false, .ref s.heap.objs.size, rawInt 0, .none, .none] }) (s.heap.objs.size + 1) s.heap.objs.size 0 .none := by
    have := Heap.get?_push_size (s.heap.push o) (o := { cls := .type "enumerate", data := .fields #[.none, .bool false, .ref s.heap.objs.size, rawInt 0, .none, .none] }) rfl
    rw [hz] at this; exact this
  refine ⟨⟨_, he, rfl⟩, h _ he (Heap.get?_push_of_some _ (Heap.get?_push_size _ B.free)) (by rw [Heap.size_push, hz]) fun b o x => Heap.get?_push_of_some _ (Heap.get?_push_of_some _ x)⟩
end PySem
namespace PL
open PySem PySem.Spec PyProof.Rows L2
/-! ### enumerate of a list or a tuple -/
def IteM (K : PySem.W.Frag) (k : Bool) (a : Addr) : It :=
  ⟨fun i H => ∃ (xs : List V) (x : V), sSrc K k H a xs ∧ xs[i]? = some x, fun i H v H' => ∃ T x, v = .ref T ∧ H T = none ∧ H' = upd H T (.tup [.int (i : Nat), x]) ∧ ∀ xs, sSrc K k H a xs → xs[i]? = some x, fun i H => ∃ xs : List V, sSrc K k H a xs ∧ xs.length = i⟩
theorem turn_enumM {P : Program} {w : World} {K : PySem.W.Frag} {elts : List Expr} {kk : Nat} {tpos : Pos} {k : Bool} {a e it : Addr} (hae : a ≠ e) (hai : a ≠ it) :
    Turn P w K (.Tuple elts kk tpos) (IteM K k a) [e, it] e (fun i h => (∃ old, IsEnum h e it ((i : Nat) : Int) old) ∧ sItr k h it a i ∧ e ≠ it) where
  mem := by simp
  obj := fun i h st b hb => by
    obtain ⟨⟨old, he⟩, hi, _⟩ := st
    have e' : b = e ∨ b = it := by simpa using hb
    rcases e' with z | z
    · rw [z]; exact ⟨_, he, fun v q => nomatch q⟩
    · rw [z]; exact hi.obj
  keep := fun i h h' st k => let ⟨⟨old, he⟩, hi, hne⟩ := st; ⟨⟨old, k e (by simp) _ he⟩, hi.at_ fun o q => k it (by simp) o q, hne⟩
  item := by
    intro X hP hw hK hc i pins s σ H E I hf st hg
    subst hP hw hK
    obtain ⟨⟨old, he⟩, hit, hne⟩ := st
    obtain ⟨xs, x, hq, hx⟩ := hg
    obtain ⟨its, rv, p⟩ := inv_src I hq
    obtain ⟨u, hu, ru⟩ := rv.get hx
    have hel : e < s.heap.objs.size := Heap.lt_size he
    have hil : it < s.heap.objs.size := by obtain ⟨_, q, _⟩ := hit.obj; exact Heap.lt_size q
    have hi1 : i < its.toArray.size := by
      have := (List.getElem?_eq_some_iff.mp hu).1
      simpa using this
    have hh : X.A.in1.handled = none := I.ok.hd hc
    refine wpAny_pyNext_enum_itemC (sDraws (prog := X.prog) (w := X.w) (A := X.A.in1) k hh it a hai its.toArray) he ⟨hit, p⟩ hi1 hne (by simp [hne, Ne.symm hae]) fun v h' tk hP ho hit' hT hsz hk => ?_
    have ev : v = u := by simpa [hu] using hP.symm
    subst ev
    refine ⟨_, rfl, wpAny_letOwnedTupleGo_enum (s := { s with heap := h', toks := tk + 1 }) ho fun h'' he' sb => ?_⟩
    have hT2 : h''.get? s.heap.objs.size = some { cls := .type "tuple", data := .seq #[.int i tk, v] } := (sb.2 _ (Nat.ne_of_gt hel)).trans hT
    have new : ObjOk X.prog X.w (upd H s.heap.objs.size (.tup [.int (i : Nat), x])) h'' s.heap.objs.size (.tup [.int (i : Nat), x]) :=
      ⟨by show 2 ≤ sizeLine; decide, [.int i tk, v], .cons ⟨_, rfl⟩ (.cons ru .nil), ⟨_, hT2, rfl, _, rfl⟩⟩
    have I1 : Inv X pins σ (upd H s.heap.objs.size (.tup [.int (i : Nat), x])) { s with heap := h'', toks := tk + 1 } :=
      I.turnedNew (t' := tk + 1) (ch := [e, it]) (fun b ob hb q => (sb.2 b (fun z => hb (by simp [z]))).trans (hk b ob (fun z => hb (by simp [z])) (fun z => hb (by simp [z])) q)) hf (Nat.le_refl _) new
    refine ⟨.ref s.heap.objs.size, _, I1, rfl, ⟨_, x, rfl, I.hok.fresh (Nat.le_refl _), rfl, fun ys hy => by rw [inv_srcinj I hy hq]; exact hx⟩, ⟨⟨v, ?_⟩, hit'.1.at_ fun o q => (sb.2 it (Ne.symm hne)).trans q, hne⟩, fun b hb => ?_⟩
    · have e1 : ((i + 1 : Nat) : Int) = (i : Int) + 1 := by omega
      rw [e1]; exact he'
    · have hb' : b < s.heap.objs.size := by
        have e' : b = e ∨ b = it := by simpa using hb
        rcases e' with z | z
        · rw [z]; exact hel
        · rw [z]; exact hil
      rw [upd_ne (Nat.ne_of_lt hb')]
      exact (hf b hb).1
  done := by
    intro X hP hw hK hc i pins s σ H E I hf st hg
    subst hP hw hK
    obtain ⟨⟨old, he⟩, hit, hne⟩ := st
    obtain ⟨xs, hq, hx⟩ := hg
    obtain ⟨its, rv, p⟩ := inv_src I hq
    obtain ⟨f0, f1, f2, f3, f4, f5⟩ := hf it (by simp)
    have hl := rv.length
    have hn : its.toArray.size = i := by simp; omega
    subst hn
    have hh : X.A.in1.handled = none := I.ok.hd hc
    exact wpAny_pyNext_enum_endD (sDraws (prog := X.prog) (w := X.w) (A := X.A.in1) k hh it a hai its.toArray) he ⟨hit, p⟩ fun h' eb => ⟨rfl, I.turned (t' := s.toks) (fun b o hb q => eb b o hb q) f0 f1 f3 f4 f5⟩
  self := fun A i s Q E st h => let ⟨⟨_, he⟩, _⟩ := st; wpAny_pyIter_enum he h
def iEnumM (K : PySem.W.Frag) (ta : TA) : TI := fun σ H R => ta σ H fun vs H1 => ∃ a xs k, vs = [.ref a] ∧ sSrc K k H1 a xs ∧ R (IteM K k a) H1
theorem pi_enumM {X : Cx} {e : Expr} {ta : TA} {p pos tpos : Pos} {elts : List Expr} {kk : Nat} (hg : Gl X "enumerate") (hm : X.mg "enumerate" = none) (ha : PA X [e] ta) (hs : starEach [e] X.env = [(false, eval e X.env)] := by rfl) :
    PI X (.Tuple elts kk tpos) (.Call (.Name "enumerate" p) [e] [] pos) (iEnumM X.K ta) := by
  refine ⟨fun pins s σ H R I h => ?_⟩
  refine Call_ (ld_blt I hg hm boot_enumerate (PyProof.Rows.callWith_type1 (thn (ha.run pos pins s σ H _ I h) fun us s1 ⟨vs, H1, I1, r1, q1⟩ => ?_) hs rfl))
  obtain ⟨a, xs, k, ex, hq, q⟩ := q1
  subst ex
  cases r1 with
  | cons r rr =>
    cases rr
    cases r
    obtain ⟨its, rv, p'⟩ := inv_src I1 hq
    refine call_enumerate_1B (sBegins k a its.toArray) p' fun h' he hit hsz hk => wpAny_pyIter_enum he ?_
    have I2 : Inv X pins σ H1 { s1 with heap := h' } := I1.kept (t' := s1.toks) hk
    have hal := p'.lt
    refine ⟨s1.heap.objs.size + 1, [s1.heap.objs.size + 1, s1.heap.objs.size], _, _, H1, rfl, I2, turn_enumM (Nat.ne_of_lt (Nat.lt_succ_of_lt hal)) (Nat.ne_of_lt hal), ⟨⟨.none, he⟩, sItr0 hit, Nat.succ_ne_self _⟩, fun b hb => ?_, q⟩
    have e' : b = s1.heap.objs.size + 1 ∨ b = s1.heap.objs.size := by simpa using hb
    have hle : s1.heap.objs.size ≤ b := by
      rcases e' with z | z
      · rw [z]; exact Nat.le_add_right _ _
      · rw [z]; exact Nat.le_refl _
    exact I1.fpOk hle (I1.hok.fresh hle)
/-- pairs of places and items -/
def enumFrom : Nat → List D → List D
  | _, [] => []
  | i, x :: r => .tup [.int (i : Nat), x] :: enumFrom (i + 1) r
theorem enumFrom_get : ∀ (l : List D) (k i : Nat), (enumFrom k l)[i]? = l[i]?.map fun x => .tup [.int ((k + i : Nat) : Int), x]
  | [], k, i => by simp [enumFrom]
  | x :: r, k, 0 => by simp [enumFrom]
  | x :: r, k, i + 1 => by simp [enumFrom, enumFrom_get r, Nat.add_assoc, Nat.add_comm 1]
theorem enumFrom_len : ∀ (l : List D) (k : Nat), (enumFrom k l).length = l.length
  | [], _ => rfl
  | x :: r, k => by simp [enumFrom, enumFrom_len r]
theorem wk_enum {K : PySem.W.Frag} {H : Hp} {k : Bool} {a : Addr} {vs : List V} {ds : List D} (h : ∀ H1, Ext H H1 → sSrc K k H1 a vs) (r : RepL K H ds vs) : WkD K (IteM K k a) H (fun _ => False) (enumFrom 0 ds) where
  go := fun i H1 hi e _ => by
    rw [enumFrom_len] at hi
    have hi' : i < vs.length := by rw [r.length]; exact hi
    exact ⟨vs, vs[i], h H1 e, List.getElem?_eq_getElem hi'⟩
  stop := fun H1 e _ => ⟨vs, h H1 e, by rw [r.length, enumFrom_len]⟩
  yld := fun i H1 x H' d hd e _ y => by
    obtain ⟨T, z, rfl, hT, rfl, y⟩ := y
    have q := y vs (h H1 e)
    rw [enumFrom_get] at hd
    obtain ⟨w, h1, rfl⟩ := Option.map_eq_some_iff.mp hd
    obtain ⟨v, h2, h3⟩ := r.get h1
    rw [q] at h2; cases h2
    refine ⟨same_new hT, repF_tup (.of upd_same) ?_⟩
    rw [Nat.zero_add]
    exact RepL.cons repF_int (RepL.one ((h3.ext e).ext (Ext.of (same_new hT))))
section
variable {X : Cx} {a : Expr} {fa : Rho → Option D}
def fEnum (fa : Rho → Option D) : Rho → Option (List D) := fun ρ => (fa ρ).bind fun x => if noStr x = true then (asSeq x).map (enumFrom 0) else none
theorem ie_enum {p pos tpos : Pos} {elts : List Expr} {kk : Nat} (hg : Gl X "enumerate") (hm : X.mg "enumerate" = none) (ha : FE X a fa) (hs : starEach [a] X.env = (false, eval a X.env) :: starEach [] X.env := by rfl)
    (hs2 : starEach [a] X.env = [(false, eval a X.env)] := by rfl) : IE X (.Tuple elts kk tpos) (.Call (.Name "enumerate" p) [a] [] pos) true (fEnum fa) :=
  PI.weak (pi_enumM hg hm (pa_cons ha pa_nil hs) hs2) fun σ H R ⟨ρ, l, er, hf, q⟩ => by
    obtain ⟨x, h1, h2⟩ := Option.bind_eq_some_iff.mp hf
    refine ⟨ρ, x, er, h1, fun v H1 s1 r1 => ?_⟩
    split at h2
    · rename_i hn
      obtain ⟨xs, h3, rfl⟩ := Option.map_eq_some_iff.mp h2
      obtain ⟨k1, p1, vs, rfl, rv, w1⟩ := src_of r1 h3 (noStr_ok hn)
      exact ⟨p1, vs, k1, rfl, w1 H1 (Ext.refl _), q _ H1 (fun _ => False) s1 (wk_enum w1 rv) (fun a z => z.elim) (fun _ a z => z)⟩
    · cases h2
end
end PL
/-! ### part PL18 -/
namespace HT
open PySem PySem.Spec PyProof.Rows
section
variable {prog : Program} {w : World} {A : Around} {E : Value → Shared → Prop} {s : Shared}
theorem sliceApplied_rev {sl : Addr} {vl vu vs : Value} {n : Nat} {Q : Int × Int × Nat → Shared → Prop} (hs : s.heap.IsSliceOf sl vl vu vs) (pl : IsPart vl none) (pu : IsPart vu none) (ps : IsPart vs (some (-1)))
    (h : Q ((n : Int) - 1, -1, n) s) : wpAny (model prog w) A (Builtin.Slice.sliceApplied (.ref sl) (pure (n : Int))) Q E s := by
  obtain ⟨os, hos, hcs, hds⟩ := id hs
  unfold Builtin.Slice.sliceApplied Builtin.Slice.sliceFields
  refine wpAny_bind (wpAny_bind (wpAny_field hos hds (x := vl) rfl (wpAny_bind (wpAny_field hos hds (x := vu) rfl (wpAny_bind (wpAny_field hos hds (x := vs) rfl (wpAny_pure ?_)))))))
  refine wpAny_bind (slicePart_ ps ?_)
  show wpAny _ _ (if ((-1 : Int) == 0) = true then _ else _) _ _ s
  rw [if_neg (by decide)]
  refine wpAny_bind (slicePart_ pl (wpAny_bind (slicePart_ pu (wpAny_bind (wpAny_pure ?_)))))
  show wpAny _ _ (match Builtin.Slice.sliceAdjust none none (-1) (n : Int) with | (lo, hi) => pure (lo, (-1 : Int), Builtin.Slice.slicePlaces lo hi (-1))) _ _ s
  have e : Builtin.Slice.sliceAdjust none none (-1) (n : Int) = ((n : Int) - 1, -1) := rfl
  rw [e]
  show wpAny _ _ (pure ((n : Int) - 1, (-1 : Int), Builtin.Slice.slicePlaces ((n : Int) - 1) (-1) (-1))) _ _ s
  have e2 : Builtin.Slice.slicePlaces ((n : Int) - 1) (-1) (-1) = n := by
    unfold Builtin.Slice.slicePlaces
    rw [if_neg (by decide)]
    by_cases hn : (-1 : Int) < (n : Int) - 1
    · rw [if_pos hn]
      have : ((n : Int) - 1 - -1 - 1) / (- -1) + 1 = (n : Int) := by
        rw [show (- -1 : Int) = 1 by decide, Int.ediv_one]; omega
      rw [this]; omega
    · rw [if_neg hn]; omega
  rw [e2]
  exact wpAny_pure h
theorem pick_rev (xs : Array Value) : ((List.range xs.size).filterMap fun (m : Nat) => xs[(((xs.size : Int) - 1) + (m : Int) * -1).toNat]?).toArray = xs.toList.reverse.toArray := by
  rw [← PySem.W.krv_pick]
  unfold PySem.slicePick
  rw [PySem.W.krv_bounds]
  show _ = ((sliceRange ((xs.size : Int) - 1) (-1) (-1)).filterMap (xs[·]?)).toArray
  rw [PySem.W.krv_sliceRange, List.filterMap_map]
  congr 1
  have key : ∀ l : List Nat, (∀ m ∈ l, m < xs.size) → l.filterMap (fun (m : Nat) => xs[(((xs.size : Int) - 1) + (m : Int) * -1).toNat]?) = l.filterMap ((fun x => xs[x]?) ∘ fun k => xs.size - 1 - k) := fun l => by
    induction l with
    | nil => intro _; rfl
    | cons m l ih =>
      intro h
      have hm := h m (by simp)
      have e : (((xs.size : Int) - 1) + (m : Int) * -1).toNat = xs.size - 1 - m := by omega
      rw [List.filterMap_cons, List.filterMap_cons, ih fun k hk => h k (by simp [hk])]
      simp only [e, Function.comp]
  exact key _ fun m hm => List.mem_range.mp hm
theorem getItem_tuple_rev {t sl : Addr} {items : Array Value} {vl vu vs : Value} {Q : Value → Shared → Prop} (ht : IsTup s.heap t items) (hs : s.heap.IsSliceOf sl vl vu vs) (pl : IsPart vl none) (pu : IsPart vu none) (ps : IsPart vs (some (-1)))
    (h : Q (.ref s.heap.objs.size) { s with heap := s.heap.push { cls := .type "tuple", data := .seq items.toList.reverse.toArray } })
    (hsz : items.size ≤ sizeLine) : wpAny (model prog w) A (getItem (.ref t) (.ref sl)) Q E s := by
  have htake : sizeOk (.seq items.toList.reverse.toArray) := by
    show items.toList.reverse.toArray.size ≤ sizeLine
    rw [List.size_toArray, List.length_reverse, Array.length_toList]
    omega
  obtain ⟨os, hos, hcs, hds⟩ := id hs
  have hTs : s.TypeIs (.ref sl) "slice" := ⟨os, hos, hcs⟩
  unfold getItem
  try with_reducible refine wpAny_holding ?_
  first | refine wpAny_bind (wpAny_pure ?_) | skip
  refine wpAny_bind (wpAny_sequenceKey ht.typeIs (by decide) ?_)
  refine wpAny_bind (wpAny_callSpecial?_slot (name := Str.ofString "__getitem__") ht.typeIs PyProof.Rows.slot_tuple_getitem
    (wpAny_call_entry PyProof.Rows.slot_tuple_getitem ht.typeIs entry_tuple_getitem ?_ (args_tuple_getitem _ _)))
  show wpAny _ _ (Builtin.Tuple.tupleItemsOf (.ref t) >>= _) _ _ s
  refine wpAny_bind (tupleItemsOf_ ht ?_)
  refine wpAny_bind (wpAny_typeOf hTs ?_)
  rw [if_pos (by decide)]
  refine wpAny_bind (sliceApplied_rev hs pl pu ps ?_)
  have hno : ¬ ((((items.size : Int) - 1) == 0 && (-1 : Int) == 1 && items.size == items.size) = true) := by
    intro q
    rw [Bool.and_eq_true, Bool.and_eq_true] at q
    exact absurd q.1.2 (by decide)
  show wpAny _ _ (if (((items.size : Int) - 1) == 0 && (-1 : Int) == 1 && items.size == items.size) = true then _ else _) _ _ s
  rw [if_neg hno, pick_rev]
  first
    | exact wpAny_bind (m := Builtin.Tuple.tupleExact _) (wpAny_newObj_type (wpAny_pure ⟨_, rfl, wpAny_pure h⟩) htake)
    | exact wpAny_bind (m := Builtin.Tuple.tupleExact _) (wpAny_newObj_type (wpAny_bind (wpAny_pure (wpAny_pure ⟨_, rfl, wpAny_pure h⟩))) htake)
    | exact wpAny_bind (wpAny_bind (m := Builtin.Tuple.tupleExact _) (wpAny_newObj_type (wpAny_pure (wpAny_pure ⟨_, rfl, wpAny_pure h⟩)) htake))
    | exact wpAny_bind (wpAny_bind (m := Builtin.Tuple.tupleExact _) (wpAny_newObj_type (wpAny_pure ⟨_, rfl, wpAny_pure h⟩) htake))
end
end HT
namespace PL
open PySem PySem.Spec PyProof.Rows L2
/-! ### xs[::-1] of a list or a tuple -/
section
variable {X : Cx}
def tRevM (K : PySem.W.Frag) (te : TE) : TE := fun σ H Q => te σ H fun x H1 => ∃ a xs, x = .ref a ∧ ((SqL K H1 a xs ∧ ∀ p, H1 p = none → Q (.ref p) (upd H1 p (.lst xs.reverse))) ∨ (SqT K H1 a xs ∧ ∀ p, H1 p = none → Q (.ref p) (upd H1 p (.tup xs.reverse))))
theorem pe_revM {e : Expr} {te : TE} {k : Nat} {p1 p2 p3 pos : Pos} (he : PE X e te) : PE X (.Subscript e (.Slice none none (some (.UnaryOp .USub (.Constant (.int 1) k p1) p2)) p3) pos) (tRevM X.K te) := by
  refine ⟨fun pins s σ H Q I h => ?_⟩
  refine Subscript_ (thn (he.run pins s σ H _ I h) fun v s1 ⟨x, H1, I1, r1, q1⟩ => ?_)
  obtain ⟨a, xs, ex, q⟩ := q1
  subst ex
  cases r1
  have hst : PO X (some (.UnaryOp .USub (.Constant (.int 1) k p1) p2)) (tPart (tUn (rU fun i => .int (-i)) (tC (.int 1)))) := po_some (pe_un un_neg pe_int)
  refine wpAny_Slice (thn (po_none.run pins s1 σ H1 (fun o H2 => o = none ∧ H2 = H1) I1 ⟨rfl, rfl⟩) fun vl s2 ⟨l, H2, I2, pl, el, e2⟩ => ?_)
  subst el e2
  refine thn (po_none.run pins s2 σ H2 (fun o H3 => o = none ∧ H3 = H2) I2 ⟨rfl, rfl⟩) fun vu s3 ⟨u, H3, I3, pu, eu, e3⟩ => ?_
  subst eu e3
  refine thn (hst.run pins s3 σ H3 (fun o H4 => o = some (-1) ∧ H4 = H3) I3 ⟨1, rfl, -1, rfl, rfl, rfl⟩) fun vs s4 ⟨o, H4, I4, ps, eo, e4⟩ => ?_
  subst eo e4
  have I5 : Inv X pins σ H4 { s4 with heap := s4.heap.push { cls := .type "slice", data := .fields #[vl, vu, vs] } } := I4.kept (t' := s4.toks) fun b ob q => Heap.get?_push_of_some _ q
  rcases q with ⟨hx, q⟩ | ⟨hx, q⟩
  · obtain ⟨its, r, ht, hz⟩ := I5.list hx
    have hlen := r.length
    show wpAny (model X.prog X.w) X.A (subscriptTail e (.Slice none none (some (.UnaryOp .USub (.Constant (.int 1) k p1) p2)) p3) (.ref a) (.ref s4.heap.objs.size)) (EP X pins σ Q) X.xe { s4 with heap := s4.heap.push { cls := .type "slice", data := .fields #[vl, vu, vs] } }
    refine tail_any (ops := [.ref a, .ref s4.heap.objs.size]) ht.isList.typeIs (PySem.slot_list_getitem.lookup) ?_ (by with_unfolding_all rfl)
    refine wpAny_getItem_list_slice ht.isList (Heap.IsSliceOf.new _ vl vu vs) pl pu ps (by decide) ?_ (by rw [List.size_toArray]; omega)
    rw [PySem.W.krv_pick]
    refine ⟨.ref _, _, I5.laid (t' := s4.toks) (o := .lst xs.reverse) (fun b ob q => Heap.get?_push_of_some _ q) (Nat.le_refl _) ?_, rfl, q _ (I5.hok.fresh (Nat.le_refl _))⟩
    exact ⟨by rw [List.length_reverse]; exact hz, _, 0, r.reverse, Heap.get?_push_size _ rfl⟩
  · obtain ⟨its, r, ht, hz⟩ := I5.tuple hx
    have hlen := r.length
    show wpAny (model X.prog X.w) X.A (subscriptTail e (.Slice none none (some (.UnaryOp .USub (.Constant (.int 1) k p1) p2)) p3) (.ref a) (.ref s4.heap.objs.size)) (EP X pins σ Q) X.xe { s4 with heap := s4.heap.push { cls := .type "slice", data := .fields #[vl, vu, vs] } }
    refine tail_any (ops := [.ref a, .ref s4.heap.objs.size]) ht.typeIs (PyProof.Rows.slot_tuple_getitem.lookup) ?_ (by with_unfolding_all rfl)
    refine HT.getItem_tuple_rev ht (Heap.IsSliceOf.new _ vl vu vs) pl pu ps ?_ (by rw [List.size_toArray]; omega)
    refine ⟨.ref _, _, I5.laid (t' := s4.toks) (o := .tup xs.reverse) (fun b ob q => Heap.get?_push_of_some _ q) (Nat.le_refl _) ?_, rfl, q _ (I5.hok.fresh (Nat.le_refl _))⟩
    exact ⟨by rw [List.length_reverse]; exact hz, _, r.reverse, IsTup.new _ _⟩
def gRev : D → Option D
  | .lst xs => some (.opn xs.reverse)
  | .tup xs => some (.tup xs.reverse)
  | _ => none
theorem me_rev {e : Expr} {f : Rho → Option D} {k : Nat} {p1 p2 p3 pos : Pos} (he : WE X e f) : ME X (.Subscript e (.Slice none none (some (.UnaryOp .USub (.Constant (.int 1) k p1) p2)) p3) pos) (u1 gRev f) :=
  PE.weak (pe_revM he) fun σ H Q ⟨ρ, d, er, hf, q⟩ => by
    obtain ⟨x, h1, h2⟩ := Option.bind_eq_some_iff.mp hf
    refine ⟨ρ, x, er, h1, fun v H1 s1 r1 => ?_⟩
    cases x <;> simp only [gRev, reduceCtorEq] at h2 <;> cases h2
    · obtain ⟨a, vs, rfl, ha, ra⟩ := repW_tup r1
      exact ⟨a, vs, rfl, .inr ⟨ha, fun p hp => q _ _ (s1.trans (same_new hp)) (RepM.of (repF_tup (.of upd_same) (ra.reverse.ext (Ext.of (same_new hp)))))⟩⟩
    · obtain ⟨a, vs, rfl, ha, ra⟩ := repW_lst r1
      exact ⟨a, vs, rfl, .inl ⟨.inl ha, fun p hp => q _ _ (s1.trans (same_new hp)) ⟨p, vs.reverse, rfl, s1.free hp, upd_same, ra.reverse.ext (Ext.of (same_new hp))⟩⟩⟩

/-! ### all, bool, isinstance with two types -/
def boolsOf : List D → Option (List Bool)
  | [] => some []
  | .bl b :: r => (boolsOf r).map (b :: ·)
  | _ :: _ => none
theorem boolsOf_eq : ∀ {l : List D} {bs : List Bool}, boolsOf l = some bs → l = bs.map .bl
  | [], ns, h => by simp [boolsOf] at h; subst h; rfl
  | d :: r, ns, h => by
    cases d <;> simp only [boolsOf, reduceCtorEq] at h
    obtain ⟨ms, h1, rfl⟩ := Option.map_eq_some_iff.mp h
    rw [boolsOf_eq h1]; rfl
theorem boolsOf_map : ∀ (ns : List Bool), boolsOf (ns.map .bl) = some ns
  | [] => rfl
  | n :: ns => by simp [boolsOf, boolsOf_map ns]
theorem repL_bools {K : PySem.W.Frag} {H : Hp} : ∀ {ns : List Bool} {vs : List V}, RepL K H (ns.map .bl) vs → vs = ns.map V.bl
  | [], vs, h => by simpa [RepL] using h
  | n :: ns, vs, h => by
    simp only [List.map_cons, RepL, RepF] at h
    obtain ⟨v, r, rfl, rfl, h2⟩ := h
    rw [repL_bools h2]; rfl
def gAll : D → Option D
  | .lst xs => (boolsOf xs).map fun bs => .bl (bs.all id)
  | _ => none
theorem rul_all {K : PySem.W.Frag} : RulU K gAll (rAll K) := fun dx d x H Q r h q => by
  cases dx <;> simp only [gAll, reduceCtorEq] at h
  obtain ⟨bs, h1, rfl⟩ := Option.map_eq_some_iff.mp h
  obtain ⟨a, vs, rfl, ha, ra⟩ := repW_lst r
  rw [boolsOf_eq h1] at ra
  rw [repL_bools ra] at ha
  exact ⟨a, bs, rfl, .inl ha, q _ H (Same.refl H) (RepM.of repF_bl)⟩
variable {a : Expr} {fa : Rho → Option D} {pos : Pos}
theorem fe_all {p : Pos} (hc : X.calm = true) (hg : Gl X "all") (hm : X.mg "all" = none) (ha : WE X a fa) (he : starEach [a] X.env = (false, eval a X.env) :: starEach [] X.env := by rfl) (hpl : (backTo pos (starEach [] X.env)).any (·.1) = false := by rfl) :
    FE X (.Call (.Name "all" p) [a] [] pos) (u1 gAll fa) :=
  fe_of_plain (fun x d h ds => by
      cases x <;> simp only [gAll, reduceCtorEq] at h
      obtain ⟨ns, _, rfl⟩ := Option.map_eq_some_iff.mp h
      exact fun z => nomatch z)
    (me_callB (id := "all") (cr_all hc) rul_all hg hm (by decide +kernel) ha (by decide) (by decide) he hpl)
def gBool : D → Option D
  | .int i => some (.bl (i != 0))
  | .bl b => some (.bl b)
  | _ => none
theorem rul_bool {K : PySem.W.Frag} : RulU K gBool (fun xs H Q => (∃ i, xs = [.int i] ∧ Q (.bl (i != 0)) H) ∨ ∃ k, xs = [.bl k] ∧ Q (.bl k) H) := fun dx d x H Q r h q => by
  cases dx <;> simp only [gBool, reduceCtorEq] at h
  · cases h
    have := repW_bl r
    subst this
    exact .inr ⟨_, rfl, q _ H (Same.refl H) (RepM.of repF_bl)⟩
  · cases h
    have := repW_int r
    subst this
    exact .inl ⟨_, rfl, q _ H (Same.refl H) (RepM.of repF_bl)⟩
theorem fe_bool1 {p : Pos} (hg : Gl X "bool") (hm : X.mg "bool" = none) (ha : WE X a fa) (he : starEach [a] X.env = (false, eval a X.env) :: starEach [] X.env := by rfl) (hpl : (backTo pos (starEach [] X.env)).any (·.1) = false := by rfl) :
    FE X (.Call (.Name "bool" p) [a] [] pos) (u1 gBool fa) :=
  fe_of_plain (fun x d h ds => by cases x <;> simp only [gBool, reduceCtorEq] at h <;> cases h <;> exact fun z => nomatch z)
    (me_callTy (id := "bool") call_bool1 rul_bool hg hm (by decide +kernel) ha (by decide) (by decide) he hpl)
def isT2 (T1 T2 : String) : D → Option D := fun d => (tyD d).bind fun n => (kitB n T1).bind fun b => (kitB n T2).map fun c => .bl (b || c)
theorem kit_any2 {K : PySem.W.Frag} {n T1 T2 : String} {b c : Bool} (h1 : kitB n T1 = some b) (h2 : kitB n T2 = some c) : PySem.W.kitAny K (.type n) [.type T1, .type T2] = some (b || c) := by
  refine kitAny_cons (kit_ty h1) (fun e => ?_) (fun e => by simp [e])
  subst e
  refine kitAny_cons (kit_ty h2) (fun e => ?_) (fun e => by simp [e])
  subst e
  exact kitAny_nil
theorem fe_isi2 {x1 x2 : Str} {T1 T2 : String} {kk : Nat} {p p2 p3 p4 : Pos} (hg : Gl X "isinstance") (hm : X.mg "isinstance" = none) (hg1 : Gl X x1) (hm1 : X.mg x1 = none) (hv1 : bootBuiltins x1 = some (.type T1)) (hg2 : Gl X x2) (hm2 : X.mg x2 = none) (hv2 : bootBuiltins x2 = some (.type T2)) (ha : WE X a fa)
    (hn1 : x1 ≠ "__name__" := by decide) (hdb1 : (x1 == ("__debug__" : Str)) = false := by decide) (hn2 : x2 ≠ "__name__" := by decide) (hdb2 : (x2 == ("__debug__" : Str)) = false := by decide)
    (hs1 : starEach [a, .Tuple [.Name x1 p2, .Name x2 p3] kk p4] X.env = (false, eval a X.env) :: starEach [.Tuple [.Name x1 p2, .Name x2 p3] kk p4] X.env := by rfl) (hs2 : starEach [.Tuple [.Name x1 p2, .Name x2 p3] kk p4] X.env = (false, eval (.Tuple [.Name x1 p2, .Name x2 p3] kk p4) X.env) :: starEach [] X.env := by rfl)
    (hs3 : starEach [.Name x1 p2, .Name x2 p3] X.env = (false, eval (.Name x1 p2) X.env) :: starEach [.Name x2 p3] X.env := by rfl) (hs4 : starEach [.Name x2 p3] X.env = (false, eval (.Name x2 p3) X.env) :: starEach [] X.env := by rfl)
    (hpl : (backTo pos (starEach [.Tuple [.Name x1 p2, .Name x2 p3] kk p4] X.env)).any (·.1) = false := by rfl) :
    FE X (.Call (.Name "isinstance" p) [a, .Tuple [.Name x1 p2, .Name x2 p3] kk p4] [] pos) (u1 (isT2 T1 T2) fa) :=
  PE.weak (pe_callB call_isiT hg hm (by decide +kernel) (pa_cons ha (pa_cons (pe_tup (pa_cons (pe_bltn (v := .ty T1) hg1 hm1 hv1 rfl hn1 hdb1) (pa_cons (pe_bltn (v := .ty T2) hg2 hm2 hv2 rfl hn2 hdb2) pa_nil hs4) hs3)) pa_nil hs2) hs1) (by decide) (by decide) hs1 hpl) fun σ H Q ⟨ρ, d, er, hf, q⟩ => by
    obtain ⟨y, h1, h2⟩ := Option.bind_eq_some_iff.mp hf
    obtain ⟨n, h3, h4⟩ := Option.bind_eq_some_iff.mp h2
    obtain ⟨b, h5, h6⟩ := Option.bind_eq_some_iff.mp h4
    obtain ⟨c, h7, rfl⟩ := Option.map_eq_some_iff.mp h6
    refine ⟨ρ, y, er, h1, fun v H1 s1 r1 => ⟨le_line (by simp), fun tp htp => ?_⟩⟩
    exact ⟨v, tp, [.ty T1, .ty T2], _, [.type T1, .type T2], b || c, rfl, upd_same, .cons (.ty T1) (.cons (.ty T2) .nil), tyX_of (r1.same (same_new htp)) h3, kit_any2 h5 h7, q _ _ (s1.trans (same_new htp)) repF_bl⟩
/-! ### sorted of texts -/
def strsOf : List D → Option (List Str)
  | [] => some []
  | .str b :: r => (strsOf r).map (b :: ·)
  | _ :: _ => none
theorem strsOf_eq : ∀ {l : List D} {bs : List Str}, strsOf l = some bs → l = bs.map .str
  | [], ns, h => by simp [strsOf] at h; subst h; rfl
  | d :: r, ns, h => by
    cases d <;> simp only [strsOf, reduceCtorEq] at h
    obtain ⟨ms, h1, rfl⟩ := Option.map_eq_some_iff.mp h
    rw [strsOf_eq h1]; rfl
theorem strsOf_map : ∀ (ns : List Str), strsOf (ns.map .str) = some ns
  | [] => rfl
  | n :: ns => by simp [strsOf, strsOf_map ns]
theorem repL_strs {K : PySem.W.Frag} {H : Hp} : ∀ {ns : List Str} {vs : List V}, RepL K H (ns.map .str) vs → vs = ns.map V.str
  | [], vs, h => by simpa [RepL] using h
  | n :: ns, vs, h => by
    simp only [List.map_cons, RepL, RepF] at h
    obtain ⟨v, r, rfl, rfl, h2⟩ := h
    rw [repL_strs h2]; rfl
theorem repL_strsV {K : PySem.W.Frag} {H : Hp} : ∀ {ns : List Str}, RepL K H (ns.map .str) (ns.map V.str)
  | [] => by simp [RepL]
  | n :: ns => by
    simp only [List.map_cons, RepL, RepF]
    exact ⟨_, _, rfl, rfl, repL_strsV⟩
def leS (x y : Str) : Bool := !ltCps y.cps.toList x.cps.toList
theorem leS_iff {x y : Str} : leS x y = true ↔ x.cps.toList ≤ y.cps.toList := by
  unfold leS
  rw [ltCps_eq, Bool.not_eq_true', decide_eq_false_iff_not, List.not_lt]
theorem leS_tot (x y : Str) : leS x y = true ∨ leS y x = true := by
  rw [leS_iff, leS_iff]; exact List.le_total _ _
theorem leS_tr (x y z : Str) : leS x y = true → leS y z = true → leS x z = true := by
  rw [leS_iff, leS_iff, leS_iff]; exact List.le_trans
theorem leS_anti {x y : Str} (h : leS x y = true) (h' : leS y x = true) : x = y := by
  rw [leS_iff] at h h'
  have := List.le_antisymm h h'
  cases x with
  | mk a =>
    cases y with
    | mk b =>
      have e : a = b := by
        have e1 : a.toList = b.toList := this
        cases a; cases b; simpa using e1
      rw [e]
def srtS (l : List Str) : List Str := srtB leS l
theorem srtS_perm (l : List Str) : (srtS l).Perm l := srtB_perm _ l
theorem srtS_pw (l : List Str) : (srtS l).Pairwise (fun a b => leS a b = true) := srtB_pw leS_tot leS_tr l
theorem risingS_pw : ∀ (l : List Str) (p : Str), risingS p l = true → (p :: l).Pairwise (fun a b => leS a b = true)
  | [], p, _ => by simp
  | x :: r, p, h => by
    simp only [risingS, Bool.and_eq_true] at h
    have ih := risingS_pw r x h.2
    refine List.pairwise_cons.mpr ⟨fun y hy => ?_, ih⟩
    have hpx : leS p x = true := h.1
    rcases List.mem_cons.mp hy with rfl | hy
    · exact hpx
    · exact leS_tr _ _ _ hpx ((List.pairwise_cons.mp ih).1 y hy)
theorem sortedS_pw : ∀ (l : List Str), sortedS l = true → l.Pairwise (fun a b => leS a b = true)
  | [], _ => by simp
  | x :: r, h => risingS_pw r x h
theorem srtS_uniq {l m : List Str} (p : m.Perm l) (h : sortedS m = true) : m = srtS l :=
  (p.trans (srtS_perm l).symm).eq_of_pairwise (fun a b _ _ h1 h2 => leS_anti h1 h2) (sortedS_pw m h) (srtS_pw l)
def gSortS : D → Option D
  | .lst xs => (strsOf xs).bind fun ss => if ss.length < 64 then some (.opn ((srtS ss).map .str)) else none
  | _ => none
theorem rul_sortS {K : PySem.W.Frag} : RulU K gSortS (rSortedS K) := fun dx d x H Q r h q => by
  cases dx <;> simp only [gSortS, reduceCtorEq] at h
  obtain ⟨ss, h1, h2⟩ := Option.bind_eq_some_iff.mp h
  split at h2
  · rename_i hl
    cases h2
    obtain ⟨a, vs, rfl, ha, ra⟩ := repW_lst r
    rw [strsOf_eq h1] at ra
    rw [repL_strs ra] at ha
    exact ⟨a, ss, rfl, .inl ha, hl, fun ys p hp hs hn => q _ _ (same_new hn) ⟨p, _, rfl, hn, upd_same, by rw [← srtS_uniq hp hs]; exact repL_strsV⟩⟩
  · cases h2
theorem me_sortS {p : Pos} (hg : Gl X "sorted") (hm : X.mg "sorted" = none) (ha : WE X a fa) (he : starEach [a] X.env = (false, eval a X.env) :: starEach [] X.env := by rfl) (hpl : (backTo pos (starEach [] X.env)).any (·.1) = false := by rfl) :
    ME X (.Call (.Name "sorted" p) [a] [] pos) (u1 gSortS fa) := me_callB (id := "sorted") cr_sortedS rul_sortS hg hm (by decide +kernel) ha (by decide) (by decide) he hpl
/-! ### a def without parameters -/
theorem me_call0 {x : Str} {p : Pos} {k : Nat} {f : Addr} {fd : FuncData} {F : List D → Option D} (G : FnOk X.prog X.w X.K X.mg X.base CX0 k f fd [] (spP 0 X.K F)) (hr : Room k X.A) (hg : Gl X x) (hm : X.mg x = some (.ref f)) (hk : PySem.W.keepIn X.K (.ref f) = true) (hb : Binds X.K fd [] [])
    (hdb : (x == ("__debug__" : Str)) = false := by decide) :
    ME X (.Call (.Name x p) [] [] pos) (fCall 0 F fsNil) := PE.weak (pe_call0 G hr hg hm hk hb .nil pass0 hdb) fun σ H Q ⟨ρ, d, er, hf, q⟩ => by
  have hF : F [] = some d := by simpa [fCall, fsNil] using hf
  show spP 0 X.K F ([] ++ []) H Q E0
  exact ⟨[], d, rfl, RepL.nil, hF, fun v H' s' r' => q v H' s' r'⟩
/-! ### no statement is reached -/
def gNever : Rho → Option Fl := fun _ => none
theorem ses_never {H0 : Hp} {st : List Stmt} : SEs X H0 st gNever := ⟨fun pins s σ H E I ⟨ρ, fl, er, hf, k⟩ => nomatch hf⟩
theorem se_never {H0 : Hp} {st : Stmt} : SE X H0 st gNever := ⟨fun pins s σ H E I ⟨ρ, fl, er, hf, k⟩ => nomatch hf⟩
end
end PL
/-! ### part PLS -/
namespace SetTxt
open PySem PySem.Spec PyProof.Rows L2
/-- how many texts differ among the first -/
def cntT (xs : List Str) : Nat → Nat
  | 0 => 0
  | i + 1 => if (xs.take i).any (· == xs.getD i Str.empty) = true then cntT xs i else cntT xs i + 1
theorem cntT_le (xs : List Str) : ∀ i, cntT xs i ≤ i
  | 0 => Nat.le_refl _
  | i + 1 => by
    have := cntT_le xs i
    simp only [cntT]
    split <;> omega
theorem cntT_nodup (xs : List Str) : ∀ i, i ≤ xs.length → (cntT xs i = i ↔ (xs.take i).Nodup)
  | 0, _ => by simp [cntT]
  | i + 1, hi => by
    have hil : i < xs.length := hi
    have ih := cntT_nodup xs i (by omega)
    have hle := cntT_le xs i
    have et : xs.take (i + 1) = xs.take i ++ [xs.getD i Str.empty] := by
      rw [List.take_add_one, List.getElem?_eq_getElem hil, List.getD_eq_getElem?_getD, List.getElem?_eq_getElem hil]; rfl
    rw [et, List.nodup_append]
    simp only [cntT]
    by_cases h : (xs.take i).any (· == xs.getD i Str.empty) = true
    · rw [if_pos h]
      constructor
      · intro e; omega
      · intro ⟨h1, h2, h3⟩
        obtain ⟨y, hy, e⟩ := List.any_eq_true.mp h
        exact absurd (eq_of_beq e) (h3 y hy _ (by simp))
    · rw [if_neg h]
      constructor
      · intro e
        refine ⟨ih.mp (by omega), by simp, fun a ha b hb e2 => h ?_⟩
        rw [List.mem_singleton] at hb
        subst hb
        exact List.any_eq_true.mpr ⟨a, ha, by simpa using e2⟩
      · intro ⟨h1, _, _⟩
        rw [ih.mpr h1]
section
variable {prog : Program} {w : World} {A : Around} {R : Result → Shared → Prop} {I : Addr} {fp wr : List Addr} {G : Array GenState → Array GenState → Prop} {n : Nat} {P : Nat → Value → Prop} {St : Nat → Shared → Prop}
theorem loopTxt (W : WalksS prog w A.in1 I fp wr G n P St) (S : Addr) (hSf : S ∉ fp) (xs : List Str) (hsz : xs.length = n) (hn1 : n ≤ 3000)
    (hval : ∀ i v, P i v → ∃ t, v = .str (xs.getD i Str.empty) t) :
    ∀ (k i : Nat) (s : Shared), n - i = k → i ≤ n → St i s →
      s.heap.SetOf (PySem.strKind prog w) S (fun k' => (xs.take i).any (· == k')) (cntT xs i) →
      (∀ s', Moved (S :: wr) G s s' → s'.heap.SetOf (PySem.strKind prog w) S (fun k' => (xs.take n).any (· == k')) (cntT xs n) → R (.ok (.ret .none)) s') →
      codeAny (model prog w) A (.builtin "set.update.loop" ⟨[.ref S, .ref I], []⟩) R s := by
  have hSw : S ∉ wr := fun h => hSf (W.sub _ h)
  have hsub : ∀ b ∈ wr, b ∈ S :: wr := fun b hb => List.mem_cons_of_mem _ hb
  intro k
  induction k with
  | zero =>
    intro i s hk hi hst hS hR
    have hin : i = n := by omega
    subst hin
    refine codeAny_builtin PyProof.Rows.F.entry_set_update_loop ?_
    rw [Around.under_plainId PyProof.Rows.F.plain_set_update_loop _]
    show wpAny _ A.in1 (pyNext (.ref I) >>= _) _ _ s
    refine wpAny_bind (W.done s _ _ hst fun s' hm => ?_)
    show wpAny _ A.in1 (ret Value.none) _ _ s'
    exact wpAny_pure (hR s' (hm.mono hsub) (by
      obtain ⟨o, es, ep, t, ho, rest⟩ := hS
      exact ⟨o, es, ep, t, hm.heap S _ hSw ho, rest⟩))
  | succ k ih =>
    intro i s hk hi hst hS hR
    have hlt : i < n := by omega
    have hci := cntT_le xs i
    refine codeAny_builtin PyProof.Rows.F.entry_set_update_loop ?_
    rw [Around.under_plainId PyProof.Rows.F.plain_set_update_loop _]
    show wpAny _ A.in1 (pyNext (.ref I) >>= _) _ _ s
    refine wpAny_bind (W.item i s _ _ hlt hst fun v s' hP hst' hm => ?_)
    obtain ⟨t, rfl⟩ := hval i v hP
    have hS' : s'.heap.SetOf (PySem.strKind prog w) S (fun k' => (xs.take i).any (· == k')) (cntT xs i) := by
      obtain ⟨o, es, ep, tb, ho, rest⟩ := hS
      exact ⟨o, es, ep, tb, hm.heap S _ hSw ho, rest⟩
    show wpAny _ A.in1 (holding [Value.str (xs.getD i Str.empty) t] (setAdd S (.str (xs.getD i Str.empty) t)) >>= _) _ _ s'
    refine wpAny_bind (wpAny_holding ?_)
    unfold setAdd
    refine wpAny_holding ?_
    refine wpAny_bind ((PySem.strKind prog w).pyHash (k := xs.getD i Str.empty) (strKind_is _ _ _ _) ?_)
    refine wpAny_setAddHashed_of (knd := PySem.strKind prog w) (s := { s' with toks := s'.toks + 1 }) (strKind_is _ _ _ _) rfl hS' (by unfold scanBound; omega) fun h' hsb hS2 => ?_
    have hSi : h'.SetOf (PySem.strKind prog w) S (fun k' => (xs.take (i + 1)).any (· == k')) (cntT xs (i + 1)) := by
      have hil : i < xs.length := by rw [hsz]; exact hlt
      have et : xs.take (i + 1) = xs.take i ++ [xs.getD i Str.empty] := by
        rw [List.take_add_one, List.getElem?_eq_getElem hil, List.getD_eq_getElem?_getD, List.getElem?_eq_getElem hil]; rfl
      refine SetOf_congr hS2 (fun k' => ?_) rfl
      rw [et, List.any_append]
      congr 1
      by_cases e : k' = xs.getD i Str.empty
      · rw [← e]; simp
      · have hb : (xs.getD i Str.empty == k') = false := by simpa [beq_iff_eq] using (fun h' : xs.getD i Str.empty = k' => e h'.symm)
        simp only [List.any_cons, List.any_nil, Bool.or_false, hb]
        exact decide_eq_false e
    refine wpAny_pure ⟨plainId_quiet PyProof.Rows.F.plain_set_update_loop _, ih (i + 1) _ (by omega) hlt (W.frame _ s' _ _ hst' (Nat.le_succ _) fun b hb o e => ?_) hSi fun s'' hm'' hS'' => ?_⟩
    · rw [hsb.2 b (fun h : b = S => hSf (by rw [← h]; exact hb))]; exact e
    · refine hR s'' (Moved.trans W.gtrans ((hm.mono hsub).then_heap (Nat.le_succ _) fun b o hb e => ?_) hm'') hS''
      rw [hsb.2 b (fun h : b = S => hb (by rw [h]; exact List.mem_cons_self))]; exact e
end
section
variable {prog : Program} {w : World} {A : Around} {E : Value → Shared → Prop} {s : Shared}
set_option maxHeartbeats 3200000 in
theorem call_set_listTxt {l : Addr} {items : Array Value} {xs : List Str} {Q : Value → Shared → Prop}
    (hh : A.handled = none) (hl : s.heap.IsList l items) (hi : PyProof.Rows.StrsAre items.toList xs) (hn1 : xs.length ≤ 3000)
    (h : ∀ (h' : Heap) (tk : Nat), h'.SetOf (PySem.strKind prog w) s.heap.objs.size (fun k' => (xs.take items.size).any (· == k')) (cntT xs items.size) →
      (∀ b o, b < s.heap.objs.size → s.heap.get? b = some o → h'.get? b = some o) → Q (.ref s.heap.objs.size) { s with heap := h', toks := tk }) :
    wpAny (model prog w) A (call (.type "set") [.ref l]) Q E s := by
  obtain ⟨c, tl, hmro⟩ := PySem.F.called_set.mro
  have hmade := PySem.F.called_set.made
  have hsub := PySem.F.called_set.sub
  refine wpAny_call (codeAny_of_tree ?_)
  show wpAny _ _ (callAny (.type "set") _) _ _ _
  refine wpAny_pure ⟨Code.quiet_builtin _ (by decide +kernel), codeAny_builtin PySem.F.entry_type_call ?_⟩
  rw [Around.under_plain (weight_type_call_type "set" [.ref l] []) rfl]
  have h1 := PySem.F.called_set.notType
  have h2 := PySem.F.called_set.canCreate
  have hct := PySem.F.typeCall_set_1 (.ref l)
  repeat (any_goals (first | assumption | wp_step))
  refine codeAny_mono (code_set_new_1 (.ref l) (E := E) (Q₁ := fun obj s₁ => ∃ led : Bool, obj = .ref s.heap.objs.size ∧ s₁ = { s with heap := s.heap.push { cls := .type "set", dict := none, data := .set #[] 0 (.fresh 0 0 led) } }) fun led => ⟨led, rfl, rfl⟩) fun r s₁ hr => ?_
  cases r with
  | error e => exact hr
  | ok fl =>
    cases fl with
    | ret obj =>
      obtain ⟨led, rfl, rfl⟩ := hr
      have hS : (s.heap.push { cls := .type "set", dict := none, data := .set #[] 0 (.fresh 0 0 led) }).get? s.heap.objs.size = some { cls := .type "set", dict := none, data := .set #[] 0 (.fresh 0 0 led) } := Heap.get?_push_size _ rfl
      have hT : Shared.TypeIs { s with heap := s.heap.push { cls := .type "set", dict := none, data := .set #[] 0 (.fresh 0 0 led) } } (.ref s.heap.objs.size) "set" := ⟨_, hS, rfl⟩
      have hli := PySem.F.called_set.init.lookup
      have hbi := PySem.F.called_set.init.bind (.ref s.heap.objs.size)
      repeat (any_goals (first | assumption | wp_step))
      refine codeAny_mono (codeAny_call_builtin (R := wants (fun r s₂ => r = .none ∧ ∃ h' tk, s₂ = { s with heap := h', toks := tk } ∧
          h'.SetOf (PySem.strKind prog w) s.heap.objs.size (fun k' => (xs.take items.size).any (· == k')) (cntT xs items.size) ∧
          (∀ b o, b < s.heap.objs.size → s.heap.get? b = some o → h'.get? b = some o)) E) PySem.F.called_set.init.plain PySem.F.entry_set_init (check_set_init_1 hT ?_)) fun r₂ s₂ hr₂ => ?_
      · obtain ⟨ol, hol, hcl, nl, hdl⟩ := hl
        obtain ⟨ocls, odict, odata, oslots⟩ := ol
        simp only at hcl hdl
        subst hcl; subst hdl
        have hol' : (s.heap.push { cls := .type "set", dict := none, data := .set #[] 0 (.fresh 0 0 led) }).get? l = some { cls := .type "list", dict := odict, data := .seq items nl, slots := oslots } := Heap.get?_push_of_some _ hol
        have hsls := PySem.F.sub_list_set
        have hslf := PySem.F.sub_list_frozenset
        have hne : (Value.type "list" == Value.type "dict") = false := by decide
        have hl1 : (s.heap.push { cls := .type "set", dict := none, data := .set #[] 0 (.fresh 0 0 led) }).IsList l items := ⟨_, hol', rfl, nl, rfl⟩
        unfold Builtin.«set.__init__» noKeywords Builtin.Frozenset.updateFrom
        generalize hPI : pyIter = PI
        wp_walk
        subst hPI
        refine wpAny_pyIter_list hl1 ?_
        refine wpAny_bind (wpAny_runValue ?_)
        have hlS : l < s.heap.objs.size := Heap.lt_size hol
        have hh3 : A.in1.in1.in1.handled = none := by simp [hh]
        have hneI : l ≠ (s.heap.push { cls := .type "set", dict := none, data := .set #[] 0 (.fresh 0 0 led) }).objs.size := by
          rw [Heap.size_push]; exact Nat.ne_of_lt (Nat.lt_succ_of_lt hlS)
        have hSf : s.heap.objs.size ∉ [(s.heap.push { cls := .type "set", dict := none, data := .set #[] 0 (.fresh 0 0 led) }).objs.size, l] := by
          rw [Heap.size_push]; simp only [List.mem_cons, List.mem_singleton, List.not_mem_nil, or_false, not_or]
          exact ⟨Nat.ne_of_lt (Nat.lt_succ_self _), Nat.ne_of_gt hlS⟩
        have hsz : xs.length = items.size := by rw [← StrsAre.len_eq hi, Array.length_toList]
        have hval : ∀ (i : Nat) (v : Value), items[i]? = some v → ∃ t, v = .str (xs.getD i Str.empty) t := fun i v hv => SS.strs_at hi i v (by rw [Array.getElem?_toList]; exact hv)
        refine loopTxt ((Walks.list hh3 _ l hneI items).toS) s.heap.objs.size
          hSf xs hsz (by rw [← hsz]; exact hn1) hval (items.size - 0) 0 _ (by omega) (Nat.zero_le _)
          ⟨⟨_, Heap.get?_push_size _ rfl, rfl, rfl⟩, (hl1.push _)⟩ ?hS0 ?hR
        case hS0 =>
          have hget : ((s.heap.push { cls := .type "set", dict := none, data := .set #[] 0 (.fresh 0 0 led) }).push { cls := .type "list_iterator", data := .fields #[.ref l, .int 0 0] }).get? s.heap.objs.size
              = some { cls := .type "set", dict := none, data := .set #[] 0 (.fresh 0 0 led) } := Heap.get?_push_of_some _ hS
          exact PyProof.Rows.SetOf_congr ((PyProof.Rows.setObjOf_fresh (knd := PySem.strKind prog w) led).setOf hget (by unfold scanBound; omega)) (fun _ => rfl) rfl
        case hR =>
          intro s' hm hS'
          obtain ⟨h', g', d', tk', os'⟩ := s'
          have eg : g' = s.gens := hm.gens
          have ed : d' = s.drawn := hm.drawn
          have eo : os' = s.os := hm.os
          subst eg; subst ed; subst eo
          show wpAny _ _ _ _ _ _
          refine wpAny_pure ?_
          show wpAny _ _ (ret Value.none) _ _ _
          refine wpAny_pure ⟨rfl, h', tk', rfl, hS', fun b o hb e => ?_⟩
          have hb1 : b ≠ s.heap.objs.size := Nat.ne_of_lt hb
          have hb2 : b ≠ (s.heap.push { cls := .type "set", dict := none, data := .set #[] 0 (.fresh 0 0 led) }).objs.size := by
            rw [Heap.size_push]; exact Nat.ne_of_lt (Nat.lt_succ_of_lt hb)
          exact hm.heap b o (by simp only [List.mem_cons, List.mem_singleton, List.not_mem_nil, or_false, not_or]; exact ⟨hb1, hb2⟩) (Heap.get?_push_of_some _ (Heap.get?_push_of_some _ e))
      · cases r₂ with
        | error e => exact hr₂
        | ok fl₂ =>
          cases fl₂ with
          | ret r =>
            obtain ⟨rfl, h', tk, rfl, hS', hk'⟩ := hr₂
            repeat (any_goals (first | assumption | wp_step))
            exact h _ _ hS' hk'
          | _ => exact hr₂.elim
    | _ => exact hr.elim
end
end SetTxt
namespace PL
open PySem PySem.Spec PyProof.Rows L2
section
variable {X : Cx}
def tLenSetT (K : PySem.W.Frag) (ta : TE) : TE := fun σ H Q => ta σ H fun x H1 => ∃ l, ∃ xs : List Str, x = .ref l ∧ SqL K H1 l (xs.map V.str) ∧ xs.length ≤ 3000 ∧ Q (.int (SetTxt.cntT xs xs.length : Nat)) H1
theorem pe_lenSetT {a : Expr} {ta : TE} {p p2 q pos : Pos} (hc : X.calm = true) (hg : Gl X "len") (hm : X.mg "len" = none) (hg2 : Gl X "set") (hm2 : X.mg "set" = none) (ha : PE X a ta)
    (na : starEach [a] X.env = (false, eval a X.env) :: starEach [] X.env := by rfl) : PE X (.Call (.Name "len" p) [.Call (.Name "set" p2) [a] [] q] [] pos) (tLenSetT X.K ta) := by
  refine ⟨fun pins s σ H Q I h => ?_⟩
  refine Call_ (ld_blt I hg hm PySem.boot_len ?_)
  refine PyProof.Rows.callWith_builtin1 (PyProof.Rows.args_cons ?_ rfl) rfl rfl
  refine Call_ (ld_blt I hg2 hm2 PyProof.Rows.boot_set ?_)
  refine PyProof.Rows.callWith_type1 (PyProof.Rows.args_cons (thn (ha.run pins s σ H _ I h) fun v s1 ⟨x, H1, I1, r1, q1⟩ => PyProof.Rows.args_nil ?_) na) na rfl
  obtain ⟨l, xs, rfl, hq, h1, q1⟩ := q1
  cases r1
  obtain ⟨its, r, pl, hz⟩ := I1.list hq
  have hl : its.toArray.size = xs.length := by rw [List.size_toArray, ← r.length, List.length_map]
  have hcn := SetTxt.cntT_le xs xs.length
  refine SetTxt.call_set_listTxt (I1.ok.hd hc) pl.isList (by simpa using strsAre_of r) h1 fun h' tk hS hk => ?_
  rw [hl] at hS
  refine PyProof.Rows.args_nil ?_
  obtain ⟨o, es, ep, t, ho, hex, hd, _, _, _, hf, hn⟩ := hS
  have I2 : Inv X pins σ H1 { s1 with heap := h', toks := tk } := I1.kept fun b o e => hk b o (Heap.lt_size e) e
  refine call_len_set ho hex hd hf (by rw [hn] <;> omega) ⟨.int (SetTxt.cntT xs xs.length : Nat), H1, I2.tok _, ⟨_, by rw [hn]⟩, q1⟩
def gLenSet : D → Option D
  | .lst xs => (strsOf xs).bind fun ss => if ss.length ≤ 3000 then some (.int (SetTxt.cntT ss ss.length : Nat)) else none
  | _ => none
theorem fe_lenSet {a : Expr} {fa : Rho → Option D} {p p2 q pos : Pos} (hc : X.calm = true) (hg : Gl X "len") (hm : X.mg "len" = none) (hg2 : Gl X "set") (hm2 : X.mg "set" = none) (ha : WE X a fa)
    (na : starEach [a] X.env = (false, eval a X.env) :: starEach [] X.env := by rfl) : FE X (.Call (.Name "len" p) [.Call (.Name "set" p2) [a] [] q] [] pos) (u1 gLenSet fa) :=
  PE.weak (pe_lenSetT hc hg hm hg2 hm2 ha na) fun σ H Q ⟨ρ, d, er, hf, k⟩ => by
    obtain ⟨x, h1, h2⟩ := Option.bind_eq_some_iff.mp hf
    refine ⟨ρ, x, er, h1, fun v H1 s1 r1 => ?_⟩
    cases x <;> simp only [gLenSet, reduceCtorEq] at h2
    obtain ⟨ss, h3, h4⟩ := Option.bind_eq_some_iff.mp h2
    split at h4
    · rename_i hl
      cases h4
      obtain ⟨l, vs, rfl, ha, ra⟩ := repW_lst r1
      rw [strsOf_eq h3] at ra
      rw [repL_strs ra] at ha
      exact ⟨l, ss, rfl, .inl ha, hl, k _ H1 s1 repF_int⟩
    · cases h4
end
end PL
/-! ### part PO1 -/
namespace SupX
open PySem PySem.Spec PyProof.Rows L2
/-! ### the frame of a method that says super() -/
abbrev envS (qual : Str) (scope : Scope) (L f : Addr) (cdv : Value) (cc : Addr) : Env := PySem.W.envX qual scope L f cdv (cellsFrom (L + 1) scope.names [(("__class__" : Str), cc)])
/-- its scope: the parameters are locals, the only captured name is the class's cell -/
structure SupS (N ps : List Str) (sc : Scope) : Prop where
  kind : sc.kind = .function
  co : sc.isCoroutine = false
  gen : sc.isGenerator = false
  nd : N.Nodup
  pre : N.take ps.length = ps
  par : ∀ x ∈ ps, sc.names.lookup x = some .local
  free : ∀ y ∈ sc.names, y.2 = .free → y.1 = "__class__"
  cls : sc.names.lookup ("__class__" : Str) = some .free
  sup : sc.names.lookup ("super" : Str) = some .globalImplicit
  noC : ("__class__" : Str) ∉ N
  dif : ∀ y ∈ sc.names, y.1 = "__class__" → y.2 = .free
def supB (N ps : List Str) (sc : Scope) : Bool :=
  decide (sc.kind = .function) && !sc.isCoroutine && !sc.isGenerator && decide N.Nodup && decide (N.take ps.length = ps) && ps.all (fun x => decide (sc.names.lookup x = some .local)) && sc.names.all (fun y => !decide (y.2 = .free) || decide (y.1 = "__class__")) &&
    decide (sc.names.lookup ("__class__" : Str) = some .free) && decide (sc.names.lookup ("super" : Str) = some .globalImplicit) && decide (("__class__" : Str) ∉ N) && sc.names.all (fun y => !decide (y.1 = "__class__") || decide (y.2 = .free))
theorem supS_by {N ps : List Str} {sc : Scope} (h : supB N ps sc = true) : SupS N ps sc := by
  unfold supB at h
  simp only [Bool.and_eq_true, Bool.not_eq_true', decide_eq_true_eq, List.all_eq_true, Bool.or_eq_true, decide_eq_false_iff_not] at h
  obtain ⟨⟨⟨⟨⟨⟨⟨⟨⟨⟨h1, h2⟩, h3⟩, h4⟩, h5⟩, h6⟩, h7⟩, h8⟩, h9⟩, h10⟩, h11⟩ := h
  exact ⟨h1, h2, h3, h4, h5, h6, fun y hy e => (h7 y hy).elim (fun z => absurd e z) id, h8, h9, h10, fun y hy e => (h11 y hy).elim (fun z => absurd e z) id⟩
def cxS (CX : CXT) (P : Program) (w : World) (K : PySem.W.Frag) (mg : Str → Option Value) (base : Heap) (N : List Str) (qual : Str) (scope : Scope) (f : Addr) (cd : Value) (cc : Addr) (A : Around) (outer : List Env) (s : Shared) (H : Hp) (E : XK) : Cx where
  prog := P
  w := w
  K := K
  mg := mg
  base := base
  A := A.deeper (envS qual scope s.heap.objs.size f cd cc)
  N := N
  s_0 := s
  H_0 := H
  env := envS qual scope s.heap.objs.size f cd cc
  outer := outer
  stack := envS qual scope s.heap.objs.size f cd cc :: outer
  ex := []
  calm := true
  fn := fun x => decide (x ≠ "__class__")
  pn := []
  xe := fun e s' => wpAny (model P w) (A.deeper (envS qual scope s.heap.objs.size f cd cc)) (leaving (envS qual scope s.heap.objs.size f cd cc) e) (fun _ s'' => CX outer H s E e s'') (fun e' s'' => CX outer H s E e' s'') s'
section
variable {M : Model} {A : Around} {E : Value → Shared → Prop}
theorem bindLocs {env : Env} (g : Str × Value → PUnit → Sem (ForInStep PUnit)) (hg : ∀ n v u, g (n, v) u = (do storeName env n v; pure (.yield ⟨⟩))) (hk : env.scope.kind = .function) :
    ∀ (binds : List (Str × Value)) (m : Str → Option Value) (s : Shared) (Q : PUnit → Shared → Prop), s.heap.Ns env.locals m → (∀ x ∈ binds, env.kindOf x.1 = some .local) →
      (∀ h' tk, h'.Ns env.locals (bindL env.kindOf binds m) → Heap.SameBut env.locals s.heap h' → Q ⟨⟩ { s with heap := h', toks := tk }) → wpAny M A (forIn binds ⟨⟩ g) Q E s
  | [], m, s, Q, hn, _, h => by rw [List.forIn_nil]; exact wpAny_pure (h _ _ hn (Heap.SameBut.refl ..))
  | (n, v) :: r, m, s, Q, hn, hkind, h => by
    rw [List.forIn_cons, hg]
    have hl := hkind (n, v) List.mem_cons_self
    refine wpAny_bind (wpAny_bind (wpAny_storeName_local hl hn (fun h' hn' hs' => wpAny_pure (bindLocs g hg hk r _ _ Q hn' (fun y hy => hkind y (List.mem_cons_of_mem _ hy)) fun h'' tk hn'' hs'' => ?_)) (by rw [hk]; rfl)))
    refine h h'' tk ?_ (hs'.trans hs'')
    unfold bindL
    rw [if_pos hl]
    exact hn''
theorem own_lt {names : List (Str × NameKind)} {h : Heap} {y : Str} {c : Addr} (hm : (y, c) ∈ cellsFrom h.objs.size names []) : (pushCells h names).IsCell c none ∧ h.objs.size ≤ c :=
  (cellsFrom_ok names h h.objs.size [] ⟨fun _ _ z => (nomatch z), List.Pairwise.nil⟩ (Nat.le_refl _)).empty y c hm
theorem own_apart {names : List (Str × NameKind)} {h : Heap} : (cellsFrom h.objs.size names []).Pairwise fun x y => x.2 ≠ y.2 :=
  (cellsFrom_ok names h h.objs.size [] ⟨fun _ _ z => (nomatch z), List.Pairwise.nil⟩ (Nat.le_refl _)).apart
theorem own_name : ∀ {names : List (Str × NameKind)} {n : Nat} {acc : List (Str × Addr)} {y : Str} {c : Addr}, (y, c) ∈ cellsFrom n names acc → (y, NameKind.cell) ∈ names ∨ (y, c) ∈ acc
  | [], _, _, _, _, h => .inr h
  | (x, k) :: r, n, acc, y, c, h => by
    unfold cellsFrom at h
    split at h
    · rename_i hk
      have hk : k = .cell := by simpa using hk
      subst hk
      rcases own_name h with h | h
      · exact .inl (List.mem_cons_of_mem _ h)
      · rcases List.mem_cons.mp h with e | h
        · cases e; exact .inl List.mem_cons_self
        · exact .inr h
    · rcases own_name h with h | h
      · exact .inl (List.mem_cons_of_mem _ h)
      · exact .inr h
/-- the new frame: names by the parameters, its own cells empty, the class's cell as it was -/
theorem newEnvS {N ps : List Str} {scope : Scope} {us : List Value} {qual : Str} {f cc : Addr} {cdv : Value} {s : Shared} {Q : Env → Shared → Prop} (S : SupS N ps scope)
    (h : ∀ h' tk, h'.Ns s.heap.objs.size (bindL (envS qual scope s.heap.objs.size f cdv cc).kindOf (ps.zip us) fun _ => none) → (∀ b o, s.heap.get? b = some o → h'.get? b = some o) →
      (∀ y c, (y, c) ∈ cellsFrom (s.heap.objs.size + 1) scope.names [] → h'.IsCell c none ∧ s.heap.objs.size + 1 ≤ c) → Q (envS qual scope s.heap.objs.size f cdv cc) { s with heap := h', toks := tk }) :
    wpAny M A (newFunctionEnv scope mainGlobals [(("__class__" : Str), cc)] (ps.zip us) (qual ++ ".<locals>.") (some f) cdv none builtinsNs) Q E s := by
  simp only [newFunctionEnv, Option.isSome_none, Bool.false_eq_true, if_false]
  refine wpAny_bind (wpAny_alloc ?_)
  refine wpAny_bind (wpAny_layCells _ (fun name kind cells => by cases hkc : kind == NameKind.cell <;> simp [hkc]) _ _ _ _ ?_)
  have sz : (s.heap.push { cls := .type "frame", data := .dict #[] }).objs.size = s.heap.objs.size + 1 := Heap.size_push ..
  rw [show ({ s with heap := s.heap.push { cls := .type "frame", data := .dict #[] } } : Shared).heap.objs.size = s.heap.objs.size + 1 from sz]
  have kp : ∀ b o, s.heap.get? b = some o → (pushCells (s.heap.push { cls := .type "frame", data := .dict #[] }) scope.names).get? b = some o := fun b o e => pushCells_keeps _ _ b o (Heap.get?_push_of_some _ e)
  refine wpAny_bind (bindLocs (env := envS qual scope s.heap.objs.size f cdv cc) _ (fun _ _ _ => rfl) S.kind (ps.zip us) (fun _ => none) _ _ ((Heap.Ns.new s.heap (.type "frame")).keeps (pushCells_keeps _ _))
    (fun x hx => S.par x.1 (List.of_mem_zip hx).1) fun h' tk hn hs => wpAny_pure (h h' tk hn (fun b o e => ?_) fun y c hm => ?_))
  · exact hs.extBut b o (Nat.ne_of_lt (Heap.lt_size e)) (kp b o e)
  · rw [← sz] at hm
    obtain ⟨h1, h2⟩ := own_lt hm
    rw [sz] at h2
    exact ⟨h1.sameBut hs (Nat.ne_of_gt h2), h2⟩
end
theorem inv_startS {CX : CXT} {P : Program} {w : World} {K : PySem.W.Frag} {mg : Str → Option Value} {base : Heap} {N ps : List Str} {qual : Str} {scope : Scope} {f cc : Addr} {cd : Value} {A : Around} {outer : List Env} {s : Shared} {H : Hp} {E : XK} {us : List Value} {vs : List V} {h' : Heap} {tk : Nat} {v0 : Option Value}
    (S : SupS N ps scope) (hd : A.handled = none) (e0 : Env0 P w K mg base A outer s H) (hl : vs.length = ps.length) (r : Vals vs us) (hcc : base.IsCell cc v0)
    (hn : h'.Ns s.heap.objs.size (bindL (envS qual scope s.heap.objs.size f cd cc).kindOf (ps.zip us) fun _ => none)) (kp : ∀ b o, s.heap.get? b = some o → h'.get? b = some o)
    (hc : ∀ y c, (y, c) ∈ cellsFrom (s.heap.objs.size + 1) scope.names [] → h'.IsCell c none ∧ s.heap.objs.size + 1 ≤ c) :
    Inv (cxS CX P w K mg base N qual scope f cd cc A outer s H E) [] (L2.start N vs) H { s with heap := h', toks := tk } := by
  have hpl : ps.length ≤ N.length := by have := congrArg List.length S.pre; rw [List.length_take] at this; omega
  obtain ⟨oc, hoc, hdc⟩ := hcc
  have hocs := e0.bs cc oc hoc
  have ccl : cc < s.heap.objs.size := Heap.lt_size hocs.1
  have noA : ∀ b : Addr, b ∉ (cxS CX P w K mg base N qual scope f cd cc A outer s H E).ex := fun b z => absurd (show b ∈ ([] : List Addr) from z) (by simp)
  have cells_eq : (envS qual scope s.heap.objs.size f cd cc).cells = cellsFrom (s.heap.objs.size + 1) scope.names [] ++ [(("__class__" : Str), cc)] := PySem.cellsFrom_over _ _ _
  have cm : ∀ {y c}, (envS qual scope s.heap.objs.size f cd cc).cells.lookup y = some c → (y, c) ∈ cellsFrom (s.heap.objs.size + 1) scope.names [] ∨ (y = "__class__" ∧ c = cc) := fun {y c} h => by
    rw [cells_eq] at h
    rcases List.mem_append.mp (PySem.mem_of_lookup h) with h | h
    · exact .inl h
    · simp at h; exact .inr h
  have nocls : ∀ c, (("__class__" : Str), c) ∉ cellsFrom (s.heap.objs.size + 1) scope.names [] := fun c h => by
    rcases own_name h with h | h
    · have := S.dif _ h rfl
      cases this
    · simp at h
  have ap : (cellsFrom (s.heap.objs.size + 1) scope.names []).Pairwise fun x y => x.2 ≠ y.2 := by
    have := own_apart (names := scope.names) (h := s.heap.push ({ cls := .type "frame", data := .dict #[] } : Obj))
    rwa [Heap.size_push] at this
  refine ⟨⟨e0.mod, S.kind, rfl, rfl, Nat.le_refl _, fun y z c h1 h2 => ?_, fun y hy => ?_, fun y c hf h => ?_, fun _ => hd, Around.frames_deeper e0.frames, .inr ⟨rfl, rfl⟩, fun b z => absurd z (noA b), e0.bs, e0.bsz, fun b _ _ => noA b, fun b z => absurd z (noA b), e0.funs, e0.frf⟩,
    rfl, e0.bare, Un.kept kp, ⟨_, hn, fun i y v h1 h2 h3 => ?_⟩, fun y c h => ?_, e0.hok.fresh (Nat.le_refl _), fun y c h => ?_, fun p hp => absurd (show p ∈ ([] : List (Addr × Obj)) from hp) (by simp), e0.hok.kept kp, ?_⟩
  · rcases cm h1 with a | ⟨a, b⟩ <;> rcases cm h2 with c' | ⟨c', d⟩
    · exact name_of_addr ap a c'
    · have q := (hc _ _ a).2
      rw [d] at q
      exact absurd q (Nat.not_le.mpr (Nat.lt_succ_of_lt ccl))
    · have q := (hc _ _ c').2
      rw [b] at q
      exact absurd q (Nat.not_le.mpr (Nat.lt_succ_of_lt ccl))
    · rw [a, c']
  · have hy : scope.names.lookup y = some .cell ∨ scope.names.lookup y = some .free := hy
    show ∃ c, (cellsFrom (s.heap.objs.size + 1) scope.names [(("__class__" : Str), cc)]).lookup y = some c
    refine Option.isSome_iff_exists.mp (PySem.W.cellsFrom_some scope.names _ _ ?_)
    rcases hy with hy | hy
    · exact .inl hy
    · have := S.free _ (PySem.mem_of_lookup hy) rfl
      subst this
      exact .inr rfl
  · rcases cm h with a | ⟨a, b⟩
    · have := (hc _ _ a).2
      show s.heap.objs.size ≤ c
      omega
    · subst a
      have hf : decide (("__class__" : Str) ≠ "__class__") = true := hf
      simp at hf
  · have hi : i < vs.length := by
      unfold L2.start at h2
      by_cases hi : i < vs.length
      · exact hi
      · rw [List.getElem?_append_right (by simpa using hi)] at h2
        rw [List.getElem?_replicate] at h2
        split at h2 <;> cases h2
    have ha : vs[i]? = some v := by
      unfold L2.start at h2
      rw [List.getElem?_append_left (by simpa using hi), List.getElem?_map] at h2
      cases e : vs[i]? with
      | none => rw [e] at h2; cases h2
      | some a => rw [e] at h2; cases h2; rfl
    obtain ⟨u, hu, rv⟩ := r.get ha
    have hp : ps[i]? = some y := by
      rw [← S.pre, List.getElem?_take_of_lt (by omega)]; exact h1
    have ndP : ps.Nodup := by rw [← S.pre]; exact S.nd.sublist (List.take_sublist _ _)
    have k := S.par y (List.mem_of_getElem? hp)
    exact ⟨u, rv, .inl ⟨k, bindL_get ndP hp hu k⟩⟩
  · rcases cm h with a | ⟨a, b⟩
    · exact ⟨_, (hc _ _ a).1⟩
    · subst b
      exact ⟨v0, oc, kp _ _ hocs.1, hdc⟩
  · rcases cm h with a | ⟨a, b⟩
    · exact e0.hok.fresh (by have := (hc _ _ a).2; omega)
    · subst b
      exact hocs.2
  · unfold L2.start
    show _ = N.length
    rw [List.length_append, List.length_map, List.length_replicate]
    omega
end SupX
/-! ### part PO2 -/
namespace SupX
open PySem PySem.Spec PyProof.Rows L2 StX
/-! ### statements where the running code is told -/
structure ASs (X : Cx) (body sts : List Stmt) (t : TS) : Prop where
  run : ∀ (pins : List (Addr × Obj)) (s : Shared) (σ : L2.St) (H : Hp) (D : Ends), Inv X pins σ H s → t D σ H → _root_.PySem.wpAt (model X.prog X.w) X.A (.func body X.env) (execs sts X.env) (SP X pins D) X.xe s
structure AS1 (X : Cx) (body : List Stmt) (st : Stmt) (t : TS) : Prop where
  run : ∀ (pins : List (Addr × Obj)) (s : Shared) (σ : L2.St) (H : Hp) (D : Ends), Inv X pins σ H s → t D σ H → _root_.PySem.wpAt (model X.prog X.w) X.A (.func body X.env) (exec st X.env) (SP X pins D) X.xe s
/-- an expression where the running code is told -/
structure AEx (X : Cx) (body : List Stmt) (e : Expr) (t : TE) : Prop where
  run : ∀ (pins : List (Addr × Obj)) (s : Shared) (σ : L2.St) (H : Hp) (Q : VK), Inv X pins σ H s → t σ H Q → _root_.PySem.wpAt (model X.prog X.w) X.A (.func body X.env) (eval e X.env) (EP X pins σ Q) X.xe s
section
variable {X : Cx} {body sts : List Stmt} {st : Stmt} {t u : TS}
theorem as_of (h : PSs X sts t) : ASs X body sts t := ⟨fun pins s σ H D I q => PySem.wpAt_of_wpAny (h.run pins s σ H D I q)⟩
theorem as1_of (h : PS X st t) : AS1 X body st t := ⟨fun pins s σ H D I q => PySem.wpAt_of_wpAny (h.run pins s σ H D I q)⟩
theorem as_cons (h1 : AS1 X body st t) (h2 : ASs X body sts u) : ASs X body (st :: sts) (tSeq t u) := by
  refine ⟨fun pins s σ H D I h => ?_⟩
  refine PySem.ks_wpAt_execs_cons (PySem.ks_wpAt_mono (h1.run pins s σ H { D with nx := u D } I h) (fun f s1 q => ?_) fun _ _ z => z)
  cases f with
  | next =>
    obtain ⟨σ', H', I', q⟩ := q
    exact h2.run pins s1 σ' H' D I' q
  | ret v => exact q
  | brk => exact q
  | cont => exact q
theorem ASs.weak {t' : TS} (h : ASs X body sts t) (k : ∀ D σ H, t' D σ H → t D σ H) : ASs X body sts t' := ⟨fun pins s σ H D I q => h.run pins s σ H D I (k D σ H q)⟩
theorem AEx.weak {e : Expr} {t t' : TE} (h : AEx X body e t) (k : ∀ σ H Q, t' σ H Q → t σ H Q) : AEx X body e t' := ⟨fun pins s σ H Q I q => h.run pins s σ H Q I (k σ H Q q)⟩
theorem as1_expr {e : Expr} {te : TE} {pos : Pos} (he : AEx X body e te) (hs : swapsWith e none pos.line X.env = pure false := by rfl) : AS1 X body (.Expr e pos) (tDrop te) := by
  refine ⟨fun pins s σ H D I h => ?_⟩
  exact PySem.ks_wpAt_Expr_any (PySem.ks_wpAt_mono (he.run pins s σ H _ I h) (fun v s1 ⟨x, H1, I1, r1, q1⟩ => ⟨σ, H1, I1, q1⟩) fun _ _ z => z) I.quiet hs
theorem as1_ret {e : Expr} {te : TE} {pos : Pos} (he : AEx X body e te) : AS1 X body (.Return (some e) pos) (tRet te) := by
  refine ⟨fun pins s σ H D I h => ?_⟩
  exact PySem.ks_wpAt_Return_some (PySem.ks_wpAt_mono (he.run pins s σ H _ I h) (fun v s1 ⟨x, H1, I1, r1, q1⟩ => ⟨x, σ, H1, I1, r1, q1⟩) fun _ _ z => z)
end

/-! ### calls with one keyword that may be given -/
def kwOf (k : Str) : Option Value → List (Str × Value)
  | none => []
  | some u => [(k, u)]
def OptRel : Option V → Option Value → Prop
  | none, none => True
  | some v, some u => RelV v u
  | _, _ => False
def FnK (P : Program) (w : World) (K : PySem.W.Frag) (mg : Str → Option Value) (base : Heap) (CX : CXT) (k : Nat) (f : Addr) (kw : Str) (sp : List V → Option V → Hp → VK → XK → Prop) : Prop :=
  ∀ (A : Around) (outer : List Env) (s : Shared) (H : Hp) (us : List Value) (vs : List V) (ku : Option Value) (kv : Option V) (Q : VK) (E : XK), Room k A → Env0 P w K mg base A outer s H → Vals vs us → OptRel kv ku → sp vs kv H Q E →
    codeAny (model P w) A (.call (.ref f) ⟨us, kwOf kw ku⟩) (CR CX outer P w H s Q E) s
/-- what such a def binds: self, the keyword (or its default, in the dict at D), what is left over in a new tuple -/
structure StarB (fd : FuncData) (p1 pk pv : Str) (D : Addr) : Prop where
  no : ∀ (du x : Value) (rest : List Value), ∃ (β γ : Type) (k1 : Option Value → Sem β) (k2 : β → Sem γ) (k3 : γ → Sem (List (Str × Value))) (a : β), bindArgs fd ⟨x :: rest, []⟩ = ((nsGet D pk >>= k1) >>= k2) >>= k3 ∧ k1 (some du) = pure a ∧
    (k2 a >>= k3) = (newTuple rest >>= fun t => pure [(p1, x), (pk, du), (pv, t)])
  kw : ∀ (v x : Value) (rest : List Value), bindArgs fd ⟨x :: rest, [(pk, v)]⟩ = (newTuple rest >>= fun t => pure [(p1, x), (pk, v), (pv, t)])
section
variable {CX : CXT} {P : Program} {w : World} {K : PySem.W.Frag} {mg : Str → Option Value} {base : Heap} {k : Nat} {f : Addr} {name qual : Str} {params : Arguments} {body : List Stmt} {scope : Scope} {dV kV doc pm cdv ct oc : Value} {an od : Option Addr}
  {osl : Array (Option Value)} {N ps : List Str}
theorem bnd_star {fd : FuncData} {p1 pk pv : Str} {D : Addr} {du : Value} {dv : V} (B : StarB fd p1 pk pv D) (hD : PySem.W.nsIn K D pk = some (some du)) (rd : RelV dv du) (hCX : CXUp CX) {A : Around} {outer : List Env} {s : Shared} {H : Hp} {E : XK}
    {ux : Value} {x : V} {us : List Value} {vs : List V} {ku : Option Value} {kv : Option V} (e0 : Env0 P w K mg base A outer s H) (rx : RelV x ux) (r : Vals vs us) (rk : OptRel kv ku) (hz : vs.length ≤ sizeLine) :
    Bnd CX P w K mg base fd ⟨ux :: us, kwOf pk ku⟩ [p1, pk, pv] A outer s H E (fun xs H2 => ∃ p, H p = none ∧ xs = [x, kv.getD dv, .ref p] ∧ H2 = upd H p (.tup vs)) := by
  intro A' Ex Q h
  have hn : H s.heap.objs.size = Option.none := e0.hok.fresh (Nat.le_refl _)
  have hz2 : us.length ≤ sizeLine := by rw [← r.length]; exact hz
  have new : ObjOk P w (upd H s.heap.objs.size (.tup vs)) (s.heap.push ({ cls := .type "tuple", data := .seq us.toArray } : Obj)) s.heap.objs.size (.tup vs) := ⟨hz, us, r, ⟨_, Heap.get?_push_size _ rfl, rfl, _, rfl⟩⟩
  have un := un_laid (fs := frs outer) (s := s) (o := ({ cls := .type "tuple", data := .seq us.toArray } : Obj)) (u := .tup vs) hn
  have fin : ∀ (u : Value) (v : V), RelV v u → v = kv.getD dv → wpAny (model P w) A' (newTuple us >>= fun t => pure [(p1, ux), (pk, u), (pv, t)]) Q Ex s := fun u v rv ev => by
    refine wpAny_bind (wpAny_newTuple (wpAny_pure ?_) hz2)
    exact h _ _ [x, v, .ref s.heap.objs.size] [ux, u, .ref s.heap.objs.size] (env0_laid e0 new) un rfl (fun e s' => hCX outer s H _ _ E e s' un (fun b o q => Heap.get?_push_of_some _ q) rfl) (.cons rx (.cons rv (.cons rfl .nil))) rfl ⟨_, hn, by rw [ev], rfl⟩
  cases kv with
  | none =>
    cases ku with
    | some u => exact rk.elim
    | none =>
      obtain ⟨β, γ, k1, k2, k3, a, e1, e2, e3⟩ := B.no du ux us
      show wpAny _ _ (bindArgs fd ⟨ux :: us, []⟩) _ _ _
      have X : K.In s.heap := e0.mod.kin.keeps fun b o e => (e0.bs b o e).1
      have l1 : PySem.W.Looks (model P w) s.heap (nsGet D pk >>= k1) a := (PySem.W.looks_nsIn X hD).andThen (PySem.W.Looks.of_pure e2)
      rw [e1, bind_assoc]
      refine wpAny_bind (l1.here ?_)
      rw [e3]
      exact fin du dv rd rfl
  | some v =>
    cases ku with
    | none => exact rk.elim
    | some u =>
      show wpAny _ _ (bindArgs fd ⟨ux :: us, [(pk, u)]⟩) _ _ _
      rw [B.kw u ux us]
      exact fin u v rk rfl
/-- a def (self, *items, key=default) -/
theorem fnk_star {p1 pk pv : Str} {D : Addr} {du : Value} {dv : V} {sp : Sp} (lk : K.lookup f = some ⟨oc, od, .func (PySem.W.fnOf name qual params body scope dV kV doc pm an cdv ct), osl⟩) (hcd : PySem.W.codeIn K cdv qual = true) (S : FnScope N [p1, pk, pv] scope) (hCX : CXUp CX)
    (B : StarB (PySem.W.fnOf name qual params body scope dV kV doc pm an cdv ct) p1 pk pv D) (hD : PySem.W.nsIn K D pk = some (some du)) (rd : RelV dv du)
    (hbody : ∀ (A : Around) (outer : List Env) (s : Shared) (H : Hp) (vs : List V) (Q : VK) (E : XK), Room k (A.deeper (envOfC qual scope s.heap.objs.size f cdv)) → sp vs H Q E →
      ∃ t, PSs (cxOf CX P w K mg base N qual scope f cdv A outer s H E) body t ∧ t { nx := fun _ H' => Q .non H', rt := Q } (L2.start N vs) H) :
    FnK P w K mg base CX (k + 1) f pk (fun vs kv H Q E => ∃ x rest, vs = x :: rest ∧ rest.length ≤ sizeLine ∧ ∀ p, H p = none → sp [x, kv.getD dv, .ref p] (upd H p (.tup rest)) Q E) := by
  intro A outer s H us vs ku kv Q E hr e0 r rk hsp
  obtain ⟨x, rest, rfl, hz, hq⟩ := hsp
  cases r with
  | cons rx r =>
    refine run_bnd lk hcd S hr e0 (bnd_star B hD rd hCX e0 rx r rk hz) fun s2 H2 xs ⟨p, hp, ex, eH⟩ hr' => ?_
    subst ex eH
    exact hbody A outer s2 _ _ Q E hr' (hq p hp)
/-- a method that says super() -/
theorem run_sup {cc : Addr} {v0 : Option Value} {ccl : Value} {cod : Option Addr} {csl : Array (Option Value)} {A : Around} {outer : List Env} {s : Shared} {H : Hp} {args : Args} {Q : VK} {E : XK} {G : List V → Hp → Prop}
    (lk : K.lookup f = some ⟨oc, od, .func (PySem.W.fnX name qual params body scope [(("__class__" : Str), cc)] dV kV doc pm an cdv ct), osl⟩) (hcd : PySem.W.codeIn K cdv qual = true) (hcc : K.lookup cc = some ⟨ccl, cod, .cell v0, csl⟩)
    (S : SupS N ps scope) (hr : Room (k + 1) A) (e0 : Env0 P w K mg base A outer s H) (hb : Bnd CX P w K mg base (PySem.W.fnX name qual params body scope [(("__class__" : Str), cc)] dV kV doc pm an cdv ct) args ps A outer s H E G)
    (hbody : ∀ (s2 : Shared) (H2 : Hp) (vs : List V), G vs H2 → Room k (A.deeper (envS qual scope s2.heap.objs.size f cdv cc)) →
      ∃ t, ASs (cxS CX P w K mg base N qual scope f cdv cc A outer s2 H2 E) body body t ∧ t { nx := fun _ H' => Q .non H', rt := Q } (L2.start N vs) H2) : codeAny (model P w) A (.call (.ref f) args) (CR CX outer P w H s Q E) s := by
  have KX : K.In s.heap := e0.mod.kin.keeps fun b o e => (e0.bs b o e).1
  refine codeAny_call_function hr.depth (KX _ _ lk) rfl S.co S.gen rfl (PySem.W.codeRec_of KX hcd) ?_
  refine hb _ _ _ fun s2 H2 vs us e2 un ho hx r hl g => ?_
  have lim : s2.heap.NoLimit := e0.mod.nolimit.keeps fun b o e => (e2.bs b o e).1
  have hcb : base.IsCell cc v0 := ⟨_, e0.mod.kin _ _ hcc, rfl⟩
  refine newEnvS (s := s2) S fun h' tk hn kp hc => ?_
  refine ⟨lim.keeps kp, PySem.ks_codeAny_funcAt ?_⟩
  obtain ⟨t, ht, hq⟩ := hbody s2 H2 vs g (hr.deeper _)
  have I : Inv (cxS CX P w K mg base N qual scope f cdv cc A outer s2 H2 E) [] (L2.start N vs) H2 { s2 with heap := h', toks := tk } := inv_startS S hr.hd e2 hl r hcb hn kp hc
  refine PySem.ks_wpAt_mono (ht.run [] _ _ _ _ I hq) (fun fl s' hs => ?_) fun e s' hs => ?_
  · have fin : ∀ {σ' : L2.St} {H' : Hp} {v' : V} {u' : Value}, Inv (cxS CX P w K mg base N qual scope f cdv cc A outer s2 H2 E) [] σ' H' s' → RelV v' u' → Q v' H' → CE outer P w H s Q u' s' :=
      fun {σ' H' v' u'} J rv' q => ⟨v', H', J.os.trans ho, J.bare, un.trans J.base, J.hok, rv', q⟩
    cases fl with
    | ret u' =>
      obtain ⟨v', σ', H', J, rv', q⟩ := hs
      exact fin J rv' q
    | next =>
      obtain ⟨σ', H', J, q⟩ := hs
      exact fin (v' := V.non) (u' := Value.none) J rfl q
    | brk =>
      obtain ⟨_, _, _, q⟩ := hs
      exact False.elim q
    | cont =>
      obtain ⟨_, _, _, q⟩ := hs
      exact False.elim q
  · exact wpAny_mono hs (fun _ s'' z => hx e s'' z) fun e' s'' z => hx e' s'' z
end
end SupX
/-! ### part PO3 -/
namespace SupX
open PySem PySem.Spec PyProof.Rows L2 StX
/-! ### super().m as a value -/
/-- the record of super() -/
abbrev supO (D x C : Addr) : Obj := PySem.W.ks_superObj D x C
section
variable {X : Cx} {pins : List (Addr × Obj)} {σ : L2.St} {H : Hp} {s : Shared} {a x C D dx g so : Addr} {fs : List (Str × V)} {m : Str} {A : Around} {E : Value → Shared → Prop}
/-- what of the text super().m needs: m, above D in C's order, is the def at g -/
structure SupM (K : PySem.W.Frag) (C D : Addr) (m : Str) (g : Addr) : Prop where
  find : PySem.W.ks_superIn K C D m = some (some (.ref g))
  ty : PySem.W.typeIn K (.ref g) = some (.type "function")
  fi : PySem.W.fnIn K g = true
  third : PySem.W.nsIn K cStatics "thirdparty.any" = some none
  nm : (m == ("__class__" : Str)) = false
theorem SupM.parts {K : PySem.W.Frag} {h : Heap} (k : SupM K C D m g) (X : K.In h) : ∃ (cd : ClassData) (of : Obj), PySem.W.clsIn K C = some cd ∧ PySem.W.alongIn K m ((cd.mro.dropWhile (· != .ref D)).drop 1) = some (some (.ref g)) ∧ h.get? g = some of ∧ of.cls = .type "function" := by
  have hm := k.find
  unfold PySem.W.ks_superIn at hm
  cases hc : PySem.W.clsIn K C with
  | none => rw [hc] at hm; cases hm
  | some cd =>
    rw [hc] at hm
    have ht : (K.lookup g).map (·.cls) = some (.type "function") := k.ty
    cases z : K.lookup g with
    | none => rw [z] at ht; cases ht
    | some of => rw [z] at ht; exact ⟨cd, of, rfl, hm, X _ _ z, Option.some.inj ht⟩
/-- the method's step of super().m(..) -/
theorem sup_meth {pl : Sem Bool} {Q : Value × List Value → Shared → Prop} (I : Inv X ((so, supO D x C) :: pins) σ H s) (e : H x = some (.ins C dx fs)) (k : SupM X.K C D m g)
    (h : ∀ q s', H q = none → Inv X ((so, supO D x C) :: pins) σ (upd H q (.met g x)) s' → Q (.ref q, []) s') : wpAny (model X.prog X.w) A (getMethod (.ref so) m pl) Q E s := by
  obtain ⟨mA, O, _, _, _, _⟩ := ins_get I.hok e
  obtain ⟨od, J, _⟩ := O.look
  obtain ⟨cd, of, hc, hf, hof, hofc⟩ := k.parts I.kIn
  have hso := ClX.pin_at I
  have XI := I.kIn
  have fr := I.hok.fresh (Nat.le_refl s.heap.objs.size)
  have I2 : Inv X ((so, supO D x C) :: pins) σ (upd H s.heap.objs.size (.met g x)) { s with heap := s.heap.push { cls := .type "method", data := .fields #[.ref g, .ref x] }, toks := s.toks + 1 } :=
    I.laid (t' := s.toks + 1) (a := s.heap.objs.size) (o := .met g x) (fun b u z => Heap.get?_push_of_some _ z) (Nat.le_refl _)
      (show (s.heap.push (PySem.W.methodObj (.ref g) (.ref x))).get? s.heap.objs.size = some (PySem.W.methodObj (.ref g) (.ref x)) from Heap.get?_push_size s.heap rfl)
  obtain ⟨hh, gg, d, t, os⟩ := s
  exact ks_wpAny_getMethod_super hso (PySem.W.looks_opaque XI k.third) (l₀ := cd.mro) (fun A Q E s kk q => wpAny_bind ((PySem.W.looks_clsIn XI hc) A _ E s kk (wpAny_pure q))) rfl XI hf hof hofc (PySem.W.ks_ne XI J hc) k.nm (h _ _ fr I2)
/-- super().m, read -/
theorem sup_attr {b : Bool} {Q : Value → Shared → Prop} (I : Inv X ((so, supO D x C) :: pins) σ H s) (e : H x = some (.ins C dx fs)) (k : SupM X.K C D m g)
    (h : ∀ q s', H q = none → Inv X ((so, supO D x C) :: pins) σ (upd H q (.met g x)) s' → Q (.ref q) s') : wpAny (model X.prog X.w) A (getAttr (.ref so) m b) Q E s := by
  obtain ⟨mA, O, _, _, _, _⟩ := ins_get I.hok e
  obtain ⟨od, J, _⟩ := O.look
  obtain ⟨cd, of, hc, hf, hof, hofc⟩ := k.parts I.kIn
  have hso := ClX.pin_at I
  have XI := I.kIn
  have fr := I.hok.fresh (Nat.le_refl s.heap.objs.size)
  have I2 : Inv X ((so, supO D x C) :: pins) σ (upd H s.heap.objs.size (.met g x)) { s with heap := s.heap.push { cls := .type "method", data := .fields #[.ref g, .ref x] }, toks := s.toks + 1 } :=
    I.laid (t' := s.toks + 1) (a := s.heap.objs.size) (o := .met g x) (fun b u z => Heap.get?_push_of_some _ z) (Nat.le_refl _)
      (show (s.heap.push (PySem.W.methodObj (.ref g) (.ref x))).get? s.heap.objs.size = some (PySem.W.methodObj (.ref g) (.ref x)) from Heap.get?_push_size s.heap rfl)
  obtain ⟨hh, gg, d, t, os⟩ := s
  have own := F.ks_slot_super_ga
  have isS : ∀ n, (⟨hh, gg, d, n, os⟩ : Shared).TypeIs (.ref so) "super" := fun _ => ⟨_, hso, rfl⟩
  have run : wpAny (model X.prog X.w) A (call (.builtin "super.__getattribute__") [.ref so, .str m t]) (fun v s' => v = .ref hh.objs.size ∧ s' = ⟨hh.push { cls := .type "method", data := .fields #[.ref g, .ref x] }, gg, d, t + 1, os⟩) (fun _ _ => False) ⟨hh, gg, d, t + 1, os⟩ :=
    wpAny_call_entry own (isS _) F.ks_entry_super_ga (ks_wpAny_super_ga hso (PySem.W.looks_opaque XI k.third) (fun A Q E s kk q => wpAny_bind ((PySem.W.looks_clsIn XI hc) A _ E s kk (wpAny_pure q))) rfl XI hf hof hofc (PySem.W.ks_ne XI J hc) k.nm ⟨_, rfl, rfl, rfl⟩) (F.ks_gaArgs_super _ _)
  unfold getAttr getAttrBy
  refine wpAny_bind (wpAny_mkText (wpAny_holding (wpAny_bind (wpAny_typeOf (isS _) (wpAny_bind (wpAny_of_eq own.lookup ?_))))))
  change wpAny _ _ (getAttrByItsOwn (.ref so) (.str m t) (.type "super") (.builtin "super.__getattribute__") true b) _ _ _
  unfold getAttrByItsOwn hookBefore callGetattribute boundAndCalled
  refine wpAny_bind (wpAny_of_eq (show (if onTheHeap (.type "super") then typeLookup (.type "super") "__getattr__" else pure none) = pure none from rfl) ?_)
  refine wpAny_bind (wpAny_attempt (wpAny_holding ?_))
  have nh : (b && onTheHeap (.builtin "super.__getattribute__")) = false := by cases b <;> rfl
  rw [nh]
  change wpAny _ _ (bindSpecial (.builtin "super.__getattribute__") (.ref so) >>= _) _ _ _
  refine wpAny_bind (wpAny_of_eq (own.bind _) ?_)
  refine wpAny_mono run (fun v s' hv => ?_) fun _ _ z => z.elim
  obtain ⟨rfl, rfl⟩ := hv
  exact wpAny_pure (h _ _ fr I2)
end
end SupX
/-! ### part PO4 -/
namespace SupX
open PySem PySem.Spec PyProof.Rows L2 StX
/-! ### super() in a method's body -/
/-- what the body's frame must have; D: the class that its text stands in -/
structure SupE (X : Cx) (D : Addr) : Prop where
  hs : X.env.kindOf "super" = some .globalImplicit
  hc : X.env.kindOf "__class__" = some .free
  hself : X.env.kindOf "self" = some .local
  hN : X.N[0]? = some ("self" : Str)
  fn : ∃ (f : Addr) (oc : Value) (od : Option Addr) (fd : FuncData) (osl : Array (Option Value)) (ar : Arg), X.env.func = some f ∧ X.K.lookup f = some ⟨oc, od, .func fd, osl⟩ ∧ (fd.params.posonlyargs ++ fd.params.args).head? = some ar ∧ ar.arg = "self"
  cd : ∃ (cda : Addr) (ccl : Value) (cdd : Option Addr) (vs : Array Value) (ccs : Array (Option Value)) (file : Str) (tf : Tok), X.env.code = .ref cda ∧ X.K.lookup cda = some ⟨ccl, cdd, .fields vs, ccs⟩ ∧ vs[2]? = some (.str file tf) ∧ ((X.prog.main.file : Str) == file) = true
  top : (X.prog.main.scope.names.lookup ("super" : Str)).isSome = false
  cell : ∃ (cc : Addr) (cl : Value) (cld : Option Addr) (csl : Array (Option Value)), X.env.cells.lookup ("__class__" : Str) = some cc ∧ X.K.lookup cc = some ⟨cl, cld, .cell (some (.ref D)), csl⟩
  isC : ∃ cdD, PySem.W.clsIn X.K D = some cdD
  mgn : X.mg "super" = none
section
variable {X : Cx} {pins : List (Addr × Obj)} {σ : L2.St} {H : Hp} {s : Shared} {x C D dx : Addr} {fs : List (Str × V)} {E : Value → Shared → Prop}
theorem sup_base {body : List Stmt} {p0 p1 : Pos} {attr : Str} {whole : Sem Value} {Q : Value → Shared → Prop} (S : SupE X D) (I : Inv X pins σ H s) (hx : σ[0]? = some (some (.ref x))) (e : H x = some (.ins C dx fs))
    (hsub : PySem.W.mroIn X.K C (.ref D) = some true) (hat : (attr == ("__class__" : Str)) = false) (h : ∀ so s', Inv X ((so, supO D x C) :: pins) σ H s' → Q (.ref so) s') :
    _root_.PySem.wpAt (model X.prog X.w) X.A (.func body X.env) (attributeBase (.Call (.Name "super" p0) [] [] p1) attr X.env whole) Q E s := by
  obtain ⟨f, oc, od, fd, osl, ar, hf, lf, hp, ea⟩ := S.fn
  obtain ⟨cda, ccl, cdd, vs, ccs, file, tf, hco, lc, hv2, hfile⟩ := S.cd
  obtain ⟨cc, cl, cld, csl, hcell, lcell⟩ := S.cell
  obtain ⟨cdD, hD⟩ := S.isC
  obtain ⟨mA, O, _, _, _, _⟩ := ins_get I.hok e
  obtain ⟨odx, J, _⟩ := O.look
  have XI := I.kIn
  obtain ⟨mb, g1, g2⟩ := I.mod.blt
  obtain ⟨mL, hns, hl⟩ := I.loc
  obtain ⟨ov, ro, ho⟩ := hl 0 "self" (.ref x) S.hN hx (.inl S.hself)
  obtain rfl : ov = Value.ref x := ro
  have hm : mL "self" = some (.ref x) := by
    rcases ho with ⟨_, z⟩ | ⟨z, _⟩
    · exact z
    · rw [show X.env.kindOf "self" = _ from S.hself] at z
      rcases z with z | z <;> cases z
  have kgl := I.mod.glob.keeps I.bk
  have kbl := g1.keeps I.bk
  have fin : ∀ h', h'.get? s.heap.objs.size = some (supO D x C) → (∀ y o, s.heap.get? y = some o → h'.get? y = some o) → Q (.ref s.heap.objs.size) { s with heap := h' } := fun h' e1 k1 =>
    h _ _ (ClX.pin_new (t' := s.toks) I k1 (Nat.le_refl _) e1 (fun v z => by cases z))
  obtain ⟨oD, hD1, hD2⟩ : ∃ oD, s.heap.get? D = some oD ∧ oD.data = .cls cdD := by
    unfold PySem.W.clsIn at hD
    split at hD
    · rename_i c d cd' sl q
      cases hD
      exact ⟨_, XI _ _ q, rfl⟩
    · cases hD
  have hself := S.hself
  rw [← ea] at hself hm
  refine ks_wpAt_super_base S.hs S.hc hat hf (XI _ _ lf) rfl hp hco (XI _ _ lc) rfl hv2 hfile S.top ?_
  refine PySem.W.ks_loadName_global I.ok.kind S.hs (Calls.loadGlobal_builtin (by rw [I.ok.glob]; exact kgl) S.mgn (by rw [I.ok.blt]; exact kbl) ((g2 "super" (by decide)).trans (by decide +kernel : bootBuiltins "super" = some (.type "super"))) ⟨rfl, ?_⟩)
  refine wpAny_loadName_free I.ok.kind S.hc hcell ⟨_, XI _ _ lcell, rfl⟩ ?_
  refine wpAny_loadName_local I.ok.kind hself hns hm ?_
  obtain ⟨hh, gg, d, t, os⟩ := s
  refine ks_wpAny_isType_cls hD1 hD2 ⟨rfl, ?_⟩
  refine ks_wpAny_call_super hD1 hD2 J.at_ J.cls (fun c z => ?_) (PySem.W.looks_mroIn XI hsub) (fun h' e1 k1 => fin h' e1 k1)
  have := J.no
  unfold PySem.W.notCls at this
  rw [z] at this
  exact Bool.noConfusion this
end
/-! ### the calls -/
def tSup (C : Addr) (g : Addr) (sp : Sp) (E : XK) (t : TA) : TE := fun σ H Q => ∃ x dx fs, σ[0]? = some (some (.ref x)) ∧ H x = some (.ins C dx fs) ∧ ∀ q, H q = none → t σ (upd H q (.met g x)) fun vs H1 => H1 q = some (.met g x) ∧ sp (.ref x :: vs) H1 Q E
section
variable {X : Cx} {CX : CXT} {k : Nat} {C D g : Addr} {m : Str} {sp : Sp} {E : XK} {p0 p1 apos pos : Pos} {body : List Stmt}
theorem sup_run {pins : List (Addr × Obj)} {p : Addr × Obj} {s3 : Shared} {σ : L2.St} {H1 : Hp} {Q : VK} {q x : Addr} {us : List Value} {vs : List V} (F : FnR X.prog X.w X.K X.mg X.base CX k g sp) (hr : Room k X.A) (hx : Passes CX X E)
    (I3 : Inv X (p :: pins) σ H1 s3) (hq : H1 q = some (.met g x)) (r : Vals vs us) (hsp : sp (.ref x :: vs) H1 Q E) : wpAny (model X.prog X.w) X.A (call (.ref q) us) (EP X pins σ Q) X.xe s3 :=
  wpAny_call (call_met I3 hq (codeAny_mono (run_fnR (us := .ref x :: us) (vs := .ref x :: vs) F hr hx I3 (.cons rfl r) hsp) fun r s4 hr4 => by
    cases r with
    | error e => exact hr4
    | ok fl => cases fl with
      | ret v => exact ClX.unpinE hr4
      | _ => exact hr4))
theorem ae_sup {e : Expr} {es : List Expr} {t : TA} {pl : Sem Bool} (S : SupE X D) (hsub : PySem.W.mroIn X.K C (.ref D) = some true) (km : SupM X.K C D m g) (F : FnR X.prog X.w X.K X.mg X.base CX k g sp) (hr : Room k X.A) (hx : Passes CX X E) (ha : PA X (e :: es) t)
    (hst : starEach (e :: es) X.env = (false, eval e X.env) :: starEach es X.env := by rfl) (hpl : (backTo pos (starEach (e :: es) X.env)).any (·.1) = false := by rfl)
    (he : eval (.Call (.Attribute (.Call (.Name "super" p0) [] [] p1) m apos) (e :: es) [] pos) X.env = (do
      let ov ← attributeBase (.Call (.Name "super" p0) [] [] p1) m X.env (eval (.Call (.Name "super" p0) [] [] p1) X.env)
      standAt apos.atName
      let (f, first) ← holding [ov] (getMethod ov m pl)
      callWith pos f first (backTo pos (starEach (e :: es) X.env)) []) := by rfl) :
    AEx X body (.Call (.Attribute (.Call (.Name "super" p0) [] [] p1) m apos) (e :: es) [] pos) (tSup C g sp E t) := by
  refine ⟨fun pins s σ H Q I h => ?_⟩
  obtain ⟨x, dx, fs, h0, hH, h1⟩ := h
  refine ks_wpAt_MethodCall (pl := pl) (sup_base S I h0 hH hsub km.nm fun so s1 I1 => sup_meth I1 hH km fun q s2 nq I2 => ?_) he
  refine callwith_met (a := x) (q := q) (g := g) (by rw [hpl]; rfl) km.fi ?_
  have hw := ha.run pos _ s2 σ _ _ I2 (h1 q nq)
  rw [hst] at hw ⊢
  refine Calls.evalArgs_plain (wpAny_mono hw (fun us s3 hu => ?_) fun _ _ z => z)
  obtain ⟨vs, H1, I3, r, hq, hsp⟩ := hu
  exact ⟨met_P I3 hq, sup_run F hr hx I3 hq r hsp⟩
theorem ae_sup0 {pl : Sem Bool} (S : SupE X D) (hsub : PySem.W.mroIn X.K C (.ref D) = some true) (km : SupM X.K C D m g) (F : FnR X.prog X.w X.K X.mg X.base CX k g sp) (hr : Room k X.A) (hx : Passes CX X E)
    (he : eval (.Call (.Attribute (.Call (.Name "super" p0) [] [] p1) m apos) [] [] pos) X.env = (do
      let ov ← attributeBase (.Call (.Name "super" p0) [] [] p1) m X.env (eval (.Call (.Name "super" p0) [] [] p1) X.env)
      standAt apos.atName
      let (f, first) ← holding [ov] (getMethod ov m pl)
      callWith pos f first (backTo pos (starEach [] X.env)) []) := by rfl) :
    AEx X body (.Call (.Attribute (.Call (.Name "super" p0) [] [] p1) m apos) [] [] pos) (tSup C g sp E tNil) := by
  refine ⟨fun pins s σ H Q I h => ?_⟩
  obtain ⟨x, dx, fs, h0, hH, h1⟩ := h
  refine ks_wpAt_MethodCall (pl := pl) (sup_base S I h0 hH hsub km.nm fun so s1 I1 => sup_meth I1 hH km fun q s2 nq I2 => ?_) he
  refine callwith_met (a := x) (q := q) (g := g) (by rfl) km.fi ?_
  obtain ⟨hq, hsp⟩ := h1 q nq
  refine evalArgs_kw_nil (by rfl) (wpAny_evalAll_nil ?_)
  exact ⟨met_P I2 hq, sup_run (us := []) (vs := []) F hr hx I2 hq .nil hsp⟩
end
section
variable {M : Model} {A : Around} {E : Value → Shared → Prop} {s : Shared}
/-- ( *x, nm = kx): x, then kx, then the items of x -/
theorem args_starK {f : Value} {x kx : Sem Value} {pos : Pos} {nm : Str} {Q : Args → Shared → Prop}
    (h : wpAny M A x (fun v s1 => wpAny M A kx (fun u s2 => PySem.W.StarOf M A E v (fun vs s3 => Q ⟨vs, [(nm, u)]⟩ s3) s2) E s1) E s) :
    wpAny M A (evalArgs f true [(true, (do let v ← x; standAt pos; pure v))] [(some nm, kx)]) Q E s := by
  unfold evalArgs
  refine wpAny_bind (wpAny_bind (wpAny_mono h (fun v s1 h1 => wpAny_bind (wpAny_standAt (wpAny_pure (wpAny_bind (wpAny_pure ?_))))) fun _ _ z => z))
  refine wpAny_holding ?_
  show wpAny _ _ (evalAll [kx] >>= _) _ _ _
  refine wpAny_bind (wpAny_evalAll_cons (wpAny_mono h1 (fun u s2 h2 => wpAny_evalAll_nil ?_) fun _ _ z => z))
  unfold PySem.W.StarOf at h2
  refine wpAny_bind (wpAny_bind (wpAny_mono h2 (fun b s3 h3 => ?_) fun _ _ y => y))
  obtain ⟨rfl, h4⟩ := h3
  rw [if_neg Bool.false_ne_true]
  refine wpAny_holding (wpAny_mono h4 (fun vs s5 h5 => ?_) fun _ _ y => y)
  exact wpAny_pure h5
theorem call_starK {f : Value} {first : List Value} {pos : Pos} {Q : Value → Shared → Prop} {P : Heap → Prop} {args : List (Bool × Sem Value)} {kws : List (Option Str × Sem Value)} (hst : args.any (·.1) = true)
    (hk : ∀ h, P h → ∃ k, (k = Keeper.frame ∨ k = Keeper.machine ∨ k = Keeper.boundFrame) ∧ PySem.W.Looks M h (keeperOf f) k)
    (h : wpAny M A (evalArgs f true args kws) (fun a s1 => P s1.heap ∧ wpAny M A (call f (first ++ a.pos) a.kw) Q E s1) E s) : wpAny M A (callWith pos f first args kws) Q E s := by
  have tail : ∀ {t : Sem Value} {s1 : Shared}, wpAny M A t Q E s1 → wpAny M A (t >>= fun r => holding [r] point >>= fun _ => pure r) Q E s1 :=
    fun ht => wpAny_bind (wpAny_mono ht (fun r s2 hr => wpAny_bind (wpAny_holding (wpAny_point (wpAny_pure hr)))) fun _ _ x => x)
  unfold callWith
  refine wpAny_bind (wpAny_holding (wpAny_mono h (fun a s1 h1 => wpAny_bind (wpAny_standAt ?_)) fun _ _ x => x))
  obtain ⟨k, hk', L⟩ := hk _ h1.1
  simp only [hst, Bool.true_or]
  refine wpAny_bind (L.here ?_)
  have mk (m : Value) : wpAny M A (callMarked m f (first ++ a.pos) a.kw) Q E s1 := by unfold callMarked; exact Calls.wpAny_keep h1.2
  rcases hk' with e | e | e
  · subst e; exact tail (mk _)
  · subst e; exact tail (wpAny_operating h1.2)
  · subst e; exact tail (wpAny_operating h1.2)
end
def tSupK (K : PySem.W.Frag) (C : Addr) (g : Addr) (sp : List V → Option V → Hp → VK → XK → Prop) (E : XK) (te tk : TE) : TE := fun σ H Q => ∃ x dx fs, σ[0]? = some (some (.ref x)) ∧ H x = some (.ins C dx fs) ∧ ∀ q, H q = none →
  te σ (upd H q (.met g x)) fun y H1 => tk σ H1 fun z H2 => ∃ b vs, y = .ref b ∧ SqT K H2 b vs ∧ H2 q = some (.met g x) ∧ sp (.ref x :: vs) (some z) H2 Q E
section
variable {X : Cx} {CX : CXT} {k : Nat} {C D g : Addr} {m kw : Str} {sp : List V → Option V → Hp → VK → XK → Prop} {E : XK} {p p0 p1 apos pos kp : Pos} {body : List Stmt}
theorem run_fnK {pins : List (Addr × Obj)} {σ : L2.St} {H : Hp} {s : Shared} {Q : VK} {us : List Value} {vs : List V} {ku : Option Value} {kv : Option V} (F : FnK X.prog X.w X.K X.mg X.base CX k g kw sp) (hr : Room k X.A) (hx : Passes CX X E) (I : Inv X pins σ H s) (r : Vals vs us) (rk : OptRel kv ku)
    (h : sp vs kv H Q E) : codeAny (model X.prog X.w) X.A (.call (.ref g) ⟨us, kwOf kw ku⟩) (fun r s' => match r with | .ok (.ret v) => EP X pins σ Q v s' | .ok _ => False | .error e => X.xe e s') s := by
  refine codeAny_mono (F X.A X.stack s H us vs ku kv Q E hr I.env0 r rk h) fun r s' hq => ?_
  cases r with
  | error e => exact hx pins σ H s e s' I hq
  | ok fl => cases fl with
    | ret u => exact I.after hq
    | next => exact False.elim hq
    | brk => exact False.elim hq
    | cont => exact False.elim hq
theorem ae_supK {e ke : Expr} {te tk : TE} (S : SupE X D) (hsub : PySem.W.mroIn X.K C (.ref D) = some true) (km : SupM X.K C D m g) (F : FnK X.prog X.w X.K X.mg X.base CX k g kw sp) (hr : Room k X.A) (hx : Passes CX X E) (he : PE X e te) (hk : PE X ke tk) :
    AEx X body (.Call (.Attribute (.Call (.Name "super" p0) [] [] p1) m apos) [.Starred e p] [⟨some kw, ke, kp⟩] pos) (tSupK X.K C g sp E te tk) := by
  refine ⟨fun pins s σ H Q I h => ?_⟩
  obtain ⟨x, dx, fs, h0, hH, h1⟩ := h
  rw [arm_eval_Call]
  refine PySem.wpAt_bind (ks_wpAt_mono (sup_base (Q := fun ov s1 => ∃ so, ov = .ref so ∧ Inv X ((so, supO D x C) :: pins) σ H s1) S I h0 hH hsub km.nm fun so s1 I1 => ⟨so, rfl, I1⟩) (fun ov s1 ho => PySem.wpAt_of_wpAny (wpAny_bind (wpAny_standAt ?_))) fun _ _ z => z)
  obtain ⟨so, rfl, I1⟩ := ho
  have e1 : starEach [.Starred e p] X.env = [(true, eval e X.env)] := rfl
  have e2 : backToKw pos (keywordEach [⟨some kw, ke, kp⟩] X.env) = [(some kw, (do let v ← eval ke X.env; standAt pos; pure v))] := rfl
  have e3 : methodCallForm ([Expr.Starred e p].length + [(⟨some kw, ke, kp⟩ : Keyword)].length) (backTo pos [(true, eval e X.env)]) [(some kw, (do let v ← eval ke X.env; standAt pos; pure v))] = false := rfl
  have e4 : ∀ o, methodCallPos false o X.env apos pos = pure pos := fun _ => rfl
  have e5 : ∀ o ov, calleeOf false o X.env ov m = (getAttr ov m true >>= fun v => pure (v, [])) := fun _ _ => rfl
  rw [e1, e2]
  unfold methodCall
  rw [e3, e4, e5]
  refine wpAny_bind (wpAny_holding (wpAny_bind (sup_attr I1 hH km fun q s2 nq I2 => wpAny_pure (wpAny_bind (wpAny_pure ?_)))))
  refine call_starK (P := PySem.W.MethP X.K q g (.ref x)) rfl (PySem.W.keeps_M km.fi) (args_starK ?_)
  refine thn (he.run _ s2 σ _ _ I2 (h1 q nq)) fun v s3 ⟨y, H1, I3, ry, q1⟩ => ?_
  refine wpAny_bind (thn (hk.run _ s3 σ _ _ I3 q1) fun u s4 ⟨z, H2, I4, rz, q2⟩ => wpAny_bind (wpAny_standAt (wpAny_pure ?_)))
  obtain ⟨b, vs, ey, hb, hq, hsp⟩ := q2
  subst ey
  obtain rfl : v = Value.ref b := ry
  refine star_tup I4 hb fun us s5 I5 rv => ⟨met_P I5 hq, ?_⟩
  refine wpAny_call (call_met I5 hq (codeAny_mono (run_fnK (us := .ref x :: us) (vs := .ref x :: vs) (ku := some u) (kv := some z) F hr hx I5 (.cons rfl rv) rz hsp) fun r s6 hr6 => ?_))
  cases r with
  | error e => exact hr6
  | ok fl => cases fl with
    | ret v => exact ClX.unpinE hr6
    | _ => exact hr6
end
end SupX
/-! ### part PO5 -/
namespace PL
open PySem PySem.Spec PyProof.Rows L2 SupX

/-! ### attributes of an object -/
theorem zip_look {vs : List V} : ∀ {j : Nat} {f : Str}, FN[j]? = some f → (FN.zip vs).lookup f = vs[j]? := by
  intro j f h
  match j, vs with
  | 0, vs =>
    have e : f = "row" := by simpa [FN] using h.symm
    subst e
    cases vs with
    | nil => rfl
    | cons a r => simp [FN]
  | 1, vs =>
    have e : f = "room" := by simpa [FN] using h.symm
    subst e
    cases vs with
    | nil => rfl
    | cons a r =>
      cases r with
      | nil => simp [FN, List.lookup, show (("room" : Str) == "row") = false by decide]
      | cons b r => simp [FN, List.lookup, show (("room" : Str) == "row") = false by decide]
  | 2, vs =>
    have e : f = "known" := by simpa [FN] using h.symm
    subst e
    match vs with
    | [] => rfl
    | [a] => simp [FN, List.lookup, show (("known" : Str) == "row") = false by decide]
    | [a, b] => simp [FN, List.lookup, show (("known" : Str) == "row") = false by decide, show (("known" : Str) == "room") = false by decide]
    | a :: b :: c :: r => simp [FN, List.lookup, show (("known" : Str) == "row") = false by decide, show (("known" : Str) == "room") = false by decide]
  | j + 3, vs => simp [FN] at h
theorem FN_mem {j : Nat} {f : Str} (h : FN[j]? = some f) : f ∈ FN := List.mem_of_getElem? h
def gFld (j : Nat) : D → Option D
  | .obj _ _ ds => ds[j]?
  | _ => none
def fFld (j : Nat) (f : Rho → Option D) : Rho → Option D := fun ρ => (f ρ).bind (gFld j)
theorem repW_obj {K : PySem.W.Frag} {H : Hp} {o : Option Addr} {c : Addr} {ds : List D} {v : V} (h : RepW K H (.obj o c ds) v) : RepO K H o c ds v := h
section
variable {X : Cx} {e : Expr} {f : Rho → Option D} {pos : Pos}
theorem fe_fld {nm : Str} (j : Nat) (he : WE X e f) (hj : FN[j]? = some nm := by rfl) (hb : attributeBase e nm X.env (eval e X.env) = eval e X.env := by rfl) : FE X (.Attribute e nm pos) (fFld j f) :=
  PE.weak (pe_fld he hb) fun σ H Q ⟨ρ, d, er, hf, q⟩ => by
    obtain ⟨x, h1, h2⟩ := Option.bind_eq_some_iff.mp hf
    refine ⟨ρ, x, er, h1, fun v H1 s1 r1 => ?_⟩
    cases x <;> simp only [gFld, reduceCtorEq] at h2
    obtain ⟨a, dx, vs, rfl, _, hc, _, hH, hr⟩ := repW_obj r1
    obtain ⟨u, hu, ru⟩ := hr.get h2
    exact ⟨a, _, dx, _, u, rfl, hH, hc.cls, hc.no _ (FN_mem hj), by rw [zip_look hj]; exact hu, q u H1 s1 ru⟩
end

/-! ### the object in a slot is changed -/
theorem ERS.oput {K : PySem.W.Frag} {H0 H H' : Hp} {σ : L2.St} {ρ : Rho} (h : ERS K H0 H σ ρ) {i : Nat} {o : Option Addr} {c : Addr} {ds es : List D} {a dx : Addr} {us : List V} (hi : ρ[i]? = some (some (.obj o c ds))) (ha : σ[i]? = some (some (.ref a)))
    (sm : ∀ b u, b ≠ a → H b = some u → H' b = some u) (hH : H' a = some (.ins c dx (FN.zip us))) (hl : us.length ≤ 3) (r : RepL K H' es us) : ERS K H0 H' σ (ρ.set i (some (.obj o c es))) ∧ Ext H H' := by
  obtain ⟨v, hv, b, dx0, vs, e1, ho, hc, hl0, hb, hr⟩ := h.slot i _ hi
  rw [ha] at hv; cases hv; cases e1
  have ext : Ext H H' := by
    refine ⟨fun b xs e => sm b _ ?_ e, fun b ob u e => sm b _ ?_ e⟩
    · rintro rfl; rw [hb] at e; cases e
    · rintro rfl; rw [hb] at e; cases e
  have hil : i < ρ.length := (List.getElem?_eq_some_iff.mp hi).1
  have n := h.ofresh i o c ds a hi ha
  have nopn : ∀ {j : Nat} {xs : List D}, (ρ.set i (some (.obj o c es)))[j]? = some (some (D.opn xs)) → ρ[j]? = some (some (D.opn xs)) := by
    intro j xs q
    by_cases hj : i = j
    · subst hj; rw [List.getElem?_set_self hil] at q; cases q
    · rw [List.getElem?_set_ne hj] at q; exact q
  have nob : ∀ {j : Nat} {o' : Option Addr} {c' : Addr} {xs : List D}, (ρ.set i (some (.obj o c es)))[j]? = some (some (D.obj o' c' xs)) → ∃ o2 c2 zs, ρ[j]? = some (some (D.obj o2 c2 zs)) := by
    intro j o' c' xs q
    by_cases hj : i = j
    · subst hj; exact ⟨o, c, ds, hi⟩
    · rw [List.getElem?_set_ne hj] at q; exact ⟨o', c', xs, q⟩
  refine ⟨⟨⟨by simp [h.len], fun j d q => ?_⟩, fun b u e => ?_, fun j xs b q1 q2 => h.fresh j xs b (nopn q1) q2, fun j k xs ys b q1 q2 q3 q4 => h.apart j k xs ys b (nopn q1) (nopn q2) q3 q4, fun j o' c' xs b q1 q2 => ?_, fun j k o1 o2 c1 c2 xs ys b q1 q2 q3 q4 => ?_⟩, ext⟩
  · by_cases hj : i = j
    · subst hj
      rw [List.getElem?_set_self hil] at q
      cases q
      exact ⟨.ref a, ha, a, dx, us, rfl, ho, hc, hl, hH, r⟩
    · rw [List.getElem?_set_ne hj] at q
      obtain ⟨v, h1, h2⟩ := h.slot j d q
      refine ⟨v, h1, ?_⟩
      cases d with
      | opn zs =>
        obtain ⟨b, ws, e1, h3, h4⟩ := h2
        refine ⟨b, ws, e1, sm b _ ?_ h3, h4.ext ext⟩
        rintro rfl
        rw [hb] at h3; cases h3
      | obj o2 c2 zs =>
        obtain ⟨b, dx2, ws, e1, h3, h4, h5, h6, h7⟩ := h2
        refine ⟨b, dx2, ws, e1, h3, h4, h5, sm b _ ?_ h6, h7.ext ext⟩
        rintro rfl
        subst e1
        exact hj (h.oapart i j _ _ _ _ _ _ b hi q ha h1)
      | _ => exact RepF.ext ext _ _ h2
  · refine sm b u ?_ (h.sm b u e)
    rintro rfl
    rw [n] at e; cases e
  · obtain ⟨_, _, _, z⟩ := nob q1
    exact h.ofresh j _ _ _ b z q2
  · obtain ⟨_, _, _, z1⟩ := nob q1
    obtain ⟨_, _, _, z2⟩ := nob q2
    exact h.oapart j k _ _ _ _ _ _ b z1 z2 q3 q4
/-- a slot takes a new object -/
theorem ERS.oset {K : PySem.W.Frag} {H0 H1 H : Hp} {σ : L2.St} {ρ : Rho} (h : ERS K H0 H1 σ ρ) (e : Same H1 H) {i : Nat} {o : Option Addr} {c : Addr} {ds : List D} {a : Addr} (n1 : H1 a = none) (r : RepO K H o c ds (.ref a)) : ERS K H0 H (σ.set i (some (.ref a))) (ρ.set i (some (.obj o c ds))) := by
  have h' := h.same e
  have n0 : H0 a = none := h.sm.free n1
  have hlen := h.len
  have nopn : ∀ {j : Nat} {xs : List D}, (ρ.set i (some (.obj o c ds)))[j]? = some (some (D.opn xs)) → i ≠ j ∧ ρ[j]? = some (some (D.opn xs)) := by
    intro j xs q
    by_cases hj : i = j
    · subst hj
      have hil : i < ρ.length := by simpa using (List.getElem?_eq_some_iff.mp q).1
      rw [List.getElem?_set_self hil] at q; cases q
    · rw [List.getElem?_set_ne hj] at q; exact ⟨hj, q⟩
  have noa : ∀ {j : Nat} {o' : Option Addr} {c' : Addr} {xs : List D}, ρ[j]? = some (some (.obj o' c' xs)) → σ[j]? = some (some (.ref a)) → False := fun q1 q2 => by
    obtain ⟨v, hv, b, dx, vs, e1, _, _, _, hb, _⟩ := h.slot _ _ q1
    rw [q2] at hv; cases hv; cases e1
    rw [n1] at hb; cases hb
  refine ⟨h'.toER.set (d := .obj o c ds) r, h'.sm, fun j xs b q1 q2 => ?_, fun j k xs ys b q1 q2 q3 q4 => ?_, fun j o' c' xs b q1 q2 => ?_, fun j k o1 o2 c1 c2 xs ys b q1 q2 q3 q4 => ?_⟩
  · obtain ⟨nj, q1⟩ := nopn q1
    rw [List.getElem?_set_ne nj] at q2
    exact h.fresh j xs b q1 q2
  · obtain ⟨nj, q1⟩ := nopn q1
    obtain ⟨nk, q2⟩ := nopn q2
    rw [List.getElem?_set_ne nj] at q3
    rw [List.getElem?_set_ne nk] at q4
    exact h.apart j k xs ys b q1 q2 q3 q4
  · by_cases hj : i = j
    · subst hj
      have hil : i < ρ.length := by simpa using (List.getElem?_eq_some_iff.mp q1).1
      rw [List.getElem?_set_self (by rw [← hlen]; exact hil)] at q2
      cases q2
      exact n0
    · rw [List.getElem?_set_ne hj] at q1 q2
      exact h.ofresh j o' c' xs b q1 q2
  · by_cases hj : i = j
    · by_cases hk : i = k
      · rw [← hj, ← hk]
      · subst hj
        have hil : i < ρ.length := by simpa using (List.getElem?_eq_some_iff.mp q1).1
        rw [List.getElem?_set_self (by rw [← hlen]; exact hil)] at q3
        cases q3
        rw [List.getElem?_set_ne hk] at q2 q4
        exact (noa q2 q4).elim
    · by_cases hk : i = k
      · subst hk
        have hil : i < ρ.length := by simpa using (List.getElem?_eq_some_iff.mp q2).1
        rw [List.getElem?_set_self (by rw [← hlen]; exact hil)] at q4
        cases q4
        rw [List.getElem?_set_ne hj] at q1 q3
        exact (noa q1 q3).elim
      · rw [List.getElem?_set_ne hj] at q1 q3
        rw [List.getElem?_set_ne hk] at q2 q4
        exact h.oapart j k _ _ _ _ _ _ b q1 q2 q3 q4

/-! ### .. with tables of code objects (T) -/
structure RO (T : List (Addr × Str)) (K : PySem.W.Frag) (H0 H : Hp) (σ : L2.St) (ρ : Rho) : Prop extends ERS K H0 H σ ρ where
  tabs : LamX.Tabs T H
  notbl : T ≠ [] → ∀ b ps, H0 b ≠ some (.tbl ps)
section
variable {T : List (Addr × Str)} {K : PySem.W.Frag} {H0 H1 H H' : Hp} {σ : L2.St} {ρ : Rho}
theorem RO.same (h : RO T K H0 H σ ρ) (e : Same H H') : RO T K H0 H' σ ρ := ⟨h.toERS.same e, h.tabs.ext e, h.notbl⟩
theorem RO.set (h : RO T K H0 H1 σ ρ) (e : Same H1 H) {i : Nat} {d : D} {v : V} (r : RepM K H1 H d v) : RO T K H0 H (σ.set i (some v)) (ρ.set i (some d)) := ⟨h.toERS.set e r, h.tabs.ext e, h.notbl⟩
theorem tabs_sameX {a C dx : Addr} {fs : List (Str × V)} (t : LamX.Tabs T H) (ha : H a = some (.ins C dx fs)) (sm : ∀ b u, b ≠ a → H b = some u → H' b = some u) : LamX.Tabs T H' := fun p hp => by
  obtain ⟨ps, h1, h2, h3⟩ := t p hp
  refine ⟨ps, sm _ _ (fun z => by rw [z, ha] at h1; cases h1) h1, h2, fun pos cv hc => ?_⟩
  obtain ⟨c, e1, e2⟩ := h3 pos cv hc
  exact ⟨c, e1, sm _ _ (fun z => by rw [z, ha] at e2; cases e2) e2⟩
theorem RO.oput (h : RO T K H0 H σ ρ) {i : Nat} {o : Option Addr} {c : Addr} {ds es : List D} {a dx : Addr} {us : List V} (hi : ρ[i]? = some (some (.obj o c ds))) (ha : σ[i]? = some (some (.ref a)))
    (sm : ∀ b u, b ≠ a → H b = some u → H' b = some u) (hH : H' a = some (.ins c dx (FN.zip us))) (hl : us.length ≤ 3) (r : RepL K H' es us) : RO T K H0 H' σ (ρ.set i (some (.obj o c es))) ∧ Ext H H' := by
  obtain ⟨v, hv, b, dx0, vs, e1, ho, hc, hl0, hb, hr⟩ := h.slot i _ hi
  rw [ha] at hv; cases hv; cases e1
  obtain ⟨er, ext⟩ := h.toERS.oput hi ha sm hH hl r
  exact ⟨⟨er, tabs_sameX h.tabs hb sm, h.notbl⟩, ext⟩
theorem RO.oset (h : RO T K H0 H1 σ ρ) (e : Same H1 H) {i : Nat} {o : Option Addr} {c : Addr} {ds : List D} {a : Addr} (n1 : H1 a = none) (r : RepO K H o c ds (.ref a)) : RO T K H0 H (σ.set i (some (.ref a))) (ρ.set i (some (.obj o c ds))) := ⟨h.toERS.oset e n1 r, h.tabs.ext e, h.notbl⟩
/-- the entry's heap with the tables and code objects as they stand now -/
def baseT (H0 H : Hp) : Hp := fun b => match H b with
  | some (.tbl ps) => some (.tbl ps)
  | some (.ext φ) => some (.ext φ)
  | _ => H0 b
theorem baseT_up (h : RO T K H0 H σ ρ) : ERS K (baseT H0 H) H σ ρ := by
  have no : ∀ {a : Addr}, (∀ ps, H a ≠ some (.tbl ps)) → (∀ φ, H a ≠ some (.ext φ)) → baseT H0 H a = H0 a := fun {a} n1 n2 => by
    unfold baseT
    split
    · rename_i ps e; exact absurd e (n1 ps)
    · rename_i φ e; exact absurd e (n2 φ)
    · rfl
  refine ⟨h.toER, fun b o e => ?_, fun i ds a q1 q2 => ?_, h.apart, fun i o c ds a q1 q2 => ?_, h.oapart⟩
  · unfold baseT at e
    split at e
    · rename_i ps q; rw [q]; exact e
    · rename_i φ q; rw [q]; exact e
    · exact h.sm b o e
  · obtain ⟨v, hv, b, vs, e1, hb, _⟩ := h.slot i _ q1
    rw [q2] at hv; cases hv; cases e1
    rw [no (fun ps z => by rw [hb] at z; cases z) (fun φ z => by rw [hb] at z; cases z)]
    exact h.fresh i ds a q1 q2
  · obtain ⟨v, hv, b, dx, vs, e1, _, _, _, hb, _⟩ := h.slot i _ q1
    rw [q2] at hv; cases hv; cases e1
    rw [no (fun ps z => by rw [hb] at z; cases z) (fun φ z => by rw [hb] at z; cases z)]
    exact h.ofresh i o c ds a q1 q2
theorem baseT_le (h : RO T K H0 H σ ρ) : ∀ b o, H0 b = some o → baseT H0 H b = some o := fun b o q => by
  unfold baseT
  have := h.sm b o q
  split
  · rename_i ps z; rw [z] at this; exact this
  · rename_i φ z; rw [z] at this; exact this
  · exact q
theorem baseT_m (h : RO T K H0 H σ ρ) {d : D} {v : V} (r : RepM K (baseT H0 H) H' d v) : RepM K H0 H' d v := by
  cases d with
  | opn ds =>
    obtain ⟨a, vs, h1, h0, h2, h3⟩ := r
    refine ⟨a, vs, h1, ?_, h2, h3⟩
    cases q : H0 a with
    | none => rfl
    | some o => rw [baseT_le h a o q] at h0; cases h0
  | _ => exact r
theorem baseT_dn (h : RO T K H0 H σ ρ) {σ' : L2.St} {ρ' : Rho} (e : ERS K (baseT H0 H) H' σ' ρ') : RO T K H0 H' σ' ρ' := by
  have le : ∀ b o, H0 b = some o → baseT H0 H b = some o := fun b o q => by
    unfold baseT
    have := h.sm b o q
    split
    · rename_i ps z; rw [z] at this; exact this
    · rename_i φ z; rw [z] at this; exact this
    · exact q
  have dn : ∀ {a : Addr}, baseT H0 H a = none → H0 a = none := fun {a} n => by
    cases q : H0 a with
    | none => rfl
    | some o => rw [le a o q] at n; cases n
  refine ⟨⟨e.toER, fun b o q => e.sm b o (le b o q), fun i ds a q1 q2 => dn (e.fresh i ds a q1 q2), e.apart, fun i o c ds a q1 q2 => dn (e.ofresh i o c ds a q1 q2), e.oapart⟩, fun p hp => ?_, h.notbl⟩
  obtain ⟨ps, h1, h2, h3⟩ := h.tabs p hp
  have k1 : ∀ b ps, H b = some (.tbl ps) → H' b = some (.tbl ps) := fun b ps q => e.sm b _ (by unfold baseT; rw [q])
  have k2 : ∀ b φ, H b = some (.ext φ) → H' b = some (.ext φ) := fun b φ q => e.sm b _ (by unfold baseT; rw [q])
  refine ⟨ps, k1 _ _ h1, h2, fun pos cv hc => ?_⟩
  obtain ⟨c, e1, e2⟩ := h3 pos cv hc
  exact ⟨c, e1, k2 _ _ e2⟩
theorem RO.nil (h : ERS K H0 H σ ρ) : RO [] K H0 H σ ρ := ⟨h, fun p hp => absurd hp (by simp), fun z => absurd rfl z⟩
/-- a lambda was made -/
theorem RO.lam (h : RO T K H0 H σ ρ) (e : LamX.ExtN H H') (t : LamX.Tabs T H') (nT : T ≠ []) : RO T K H0 H' σ ρ := by
  have k := h.notbl nT
  have sm : Same H0 H' := fun b o q => e b o (h.sm b o q) fun ps z => k b ps (by rw [q, z])
  have slot : ∀ (i : Nat) (d : D), ρ[i]? = some (some d) → ∃ v, σ[i]? = some (some v) ∧ RepS K H' d v := fun i d q => by
    obtain ⟨v, h1, h2⟩ := h.slot i d q
    have ext : Ext H H' := ⟨fun a xs z => e a _ z (fun ps y => by cases y), fun a o u z => e a _ z (fun ps y => by cases y)⟩
    refine ⟨v, h1, ?_⟩
    cases d with
    | opn ds =>
      obtain ⟨a, vs, e1, h3, h4⟩ := h2
      exact ⟨a, vs, e1, e a _ h3 (fun ps y => by cases y), h4.ext ext⟩
    | obj o c ds =>
      obtain ⟨a, dx, vs, e1, h3, h4, h5, h6, h7⟩ := h2
      exact ⟨a, dx, vs, e1, h3, h4, h5, e a _ h6 (fun ps y => by cases y), h7.ext ext⟩
    | _ => exact RepF.ext ext _ _ h2
  exact ⟨⟨⟨h.len, slot⟩, sm, h.fresh, h.apart, h.ofresh, h.oapart⟩, t, h.notbl⟩
end

/-! ### statements with objects -/
inductive Fo where
  | nx (ρ : Rho) | rt (d : D) | bk (ρ : Rho) | ct (ρ : Rho)
  /-- return, the slots told -/
  | ro (ρ : Rho) (d : D)
  /-- an error of the class at C -/
  | ex (C : Addr) (ρ : Rho)
def FoK (K : PySem.W.Frag) (T : List (Addr × Str)) (H0 : Hp) (EX : XK) (H : Hp) (E : Ends) : Fo → Prop
  | .nx ρ => ∀ σ H', Ext H H' → RO T K H0 H' σ ρ → E.nx σ H'
  | .bk ρ => ∀ σ H', Ext H H' → RO T K H0 H' σ ρ → E.bk σ H'
  | .ct ρ => ∀ σ H', Ext H H' → RO T K H0 H' σ ρ → E.ct σ H'
  | .rt d => ∀ v H', Same H0 H' → RepM K H0 H' d v → E.rt v H'
  | .ro ρ d => ∀ σ v H', RO T K H0 H' σ ρ → RepM K H0 H' d v → E.rt v H'
  | .ex C ρ => ∀ σ H', RO T K H0 H' σ ρ → EX (.ref C) none H'
theorem FoK.ext {K : PySem.W.Frag} {T : List (Addr × Str)} {H0 H H' : Hp} {EX : XK} {E : Ends} {fl : Fo} (h : FoK K T H0 EX H E fl) (e : Ext H H') : FoK K T H0 EX H' E fl := by
  cases fl with
  | nx ρ => exact fun σ H2 e2 r => h σ H2 (e.trans e2) r
  | bk ρ => exact fun σ H2 e2 r => h σ H2 (e.trans e2) r
  | ct ρ => exact fun σ H2 e2 r => h σ H2 (e.trans e2) r
  | _ => exact h
def tO (K : PySem.W.Frag) (T : List (Addr × Str)) (H0 : Hp) (EX : XK) (g : Rho → Option Fo) : TS := fun E σ H => ∃ ρ fl, RO T K H0 H σ ρ ∧ g ρ = some fl ∧ FoK K T H0 EX H E fl
def SO (X : Cx) (T : List (Addr × Str)) (H0 : Hp) (EX : XK) (st : Stmt) (g : Rho → Option Fo) : Prop := PS X st (tO X.K T H0 EX g)
def SOs (X : Cx) (T : List (Addr × Str)) (H0 : Hp) (EX : XK) (st : List Stmt) (g : Rho → Option Fo) : Prop := PSs X st (tO X.K T H0 EX g)
def upFl : Fl → Fo
  | .nx ρ => .nx ρ
  | .rt d => .rt d
  | .bk ρ => .bk ρ
  | .ct ρ => .ct ρ
def oUp (g : Rho → Option Fl) : Rho → Option Fo := fun ρ => (g ρ).map upFl
def oNil : Rho → Option Fo := fun ρ => some (.nx ρ)
def thenO (g2 : Rho → Option Fo) : Fo → Option Fo
  | .nx ρ => g2 ρ
  | fl => some fl
def oSeq (g1 g2 : Rho → Option Fo) : Rho → Option Fo := fun ρ => (g1 ρ).bind (thenO g2)
def oIf (c : Rho → Option Bool) (g1 g2 : Rho → Option Fo) : Rho → Option Fo := fun ρ => (c ρ).bind fun k => if k = true then g1 ρ else g2 ρ
def oRet (f : Rho → Option D) : Rho → Option Fo := fun ρ => (f ρ).map (.ro ρ)
def oRaise (C : Addr) : Rho → Option Fo := fun ρ => some (.ex C ρ)
def putD (j : Nat) (d : D) (ds : List D) : Option (List D) := if j < ds.length then some (ds.set j d) else if j = ds.length then some (ds ++ [d]) else none
def oFld (i j : Nat) (f : Rho → Option D) : Rho → Option Fo := fun ρ => (f ρ).bind fun d => match ρ[i]? with
  | some (some (.obj o c ds)) => (putD j d ds).map fun es => .nx (ρ.set i (some (.obj o c es)))
  | _ => none
theorem putF_zip {vs : List V} {j : Nat} {f : Str} {v : V} (h : FN[j]? = some f) (hl : vs.length ≤ 3) (hj : j ≤ vs.length) : putF f v (FN.zip vs) = FN.zip (if j < vs.length then vs.set j v else vs ++ [v]) := by
  match j, vs with
  | 0, [] => simp [FN] at h; subst h; rfl
  | 0, [a] => simp [FN] at h; subst h; rfl
  | 0, [a, b] => simp [FN] at h; subst h; rfl
  | 0, [a, b, c] => simp [FN] at h; subst h; rfl
  | 1, [a] => simp [FN] at h; subst h; rfl
  | 1, [a, b] => simp [FN] at h; subst h; rfl
  | 1, [a, b, c] => simp [FN] at h; subst h; rfl
  | 2, [a, b] => simp [FN] at h; subst h; rfl
  | 2, [a, b, c] => simp [FN] at h; subst h; rfl
  | j + 3, _ => simp [FN] at h
  | 1, [] => simp at hj
  | 2, [] => simp at hj
  | 2, [_] => simp at hj
  | 0, _ :: _ :: _ :: _ :: _ => simp at hl
  | 1, _ :: _ :: _ :: _ :: _ => simp at hl
  | 2, _ :: _ :: _ :: _ :: _ => simp at hl
section
variable {X : Cx} {T : List (Addr × Str)} {H0 : Hp} {EX : XK} {st : Stmt} {sts : List Stmt} {g g1 g2 : Rho → Option Fo} {e a b : Expr} {f : Rho → Option D} {pos : Pos}
theorem so_of {gl : Rho → Option Fl} (h : ∀ H0, SE X H0 st gl) : SO X T H0 EX st (oUp gl) := by
  refine ⟨fun pins s σ H E I ⟨ρ, fl, er, hf, k⟩ => (h (baseT H0 H)).run pins s σ H E I ?_⟩
  obtain ⟨fl0, h1, rfl⟩ := Option.map_eq_some_iff.mp hf
  refine ⟨ρ, fl0, baseT_up er, h1, ?_⟩
  cases fl0 with
  | rt d => exact fun v H' sm r => k v H' (fun b o q => sm b o (baseT_le er b o q)) (baseT_m er r)
  | nx ρ' => exact fun σ' H' e r => k σ' H' e (baseT_dn er r)
  | bk ρ' => exact fun σ' H' e r => k σ' H' e (baseT_dn er r)
  | ct ρ' => exact fun σ' H' e r => k σ' H' e (baseT_dn er r)
theorem sos_nil : SOs X T H0 EX [] oNil := PSs.weak pss_nil fun E σ H ⟨ρ, fl, er, hf, k⟩ => by cases hf; exact k σ H (Ext.refl H) er
theorem sos_cons (h1 : SO X T H0 EX st g1) (h2 : SOs X T H0 EX sts g2) : SOs X T H0 EX (st :: sts) (oSeq g1 g2) := PSs.weak (pss_cons h1 h2) fun E σ H ⟨ρ, fl, er, hf, k⟩ => by
  obtain ⟨fl1, h3, h4⟩ := Option.bind_eq_some_iff.mp hf
  refine ⟨ρ, fl1, er, h3, ?_⟩
  cases fl1 with
  | nx ρ' => exact fun σ' H' e' er' => ⟨ρ', fl, er', h4, k.ext e'⟩
  | _ => cases h4; exact k
theorem so_if {cx : Expr} {c : Rho → Option Bool} {s1 s2 : List Stmt} (hc : BE X cx c) (h1 : SOs X T H0 EX s1 g1) (h2 : SOs X T H0 EX s2 g2) : SO X T H0 EX (.If cx s1 s2 pos) (oIf c g1 g2) :=
  PS.weak (ps_if hc h1 h2) fun E σ H ⟨ρ, fl, er, hf, k⟩ => by
    obtain ⟨b, h3, h4⟩ := Option.bind_eq_some_iff.mp hf
    refine ⟨ρ, b, er.toER, h3, fun H1 s1 => ?_⟩
    cases b with
    | true => exact ⟨ρ, fl, er.same s1, by simpa using h4, k.ext (Ext.of s1)⟩
    | false => exact ⟨ρ, fl, er.same s1, by simpa using h4, k.ext (Ext.of s1)⟩
theorem so_ret (he : ME X e f) : SO X T H0 EX (.Return (some e) pos) (oRet f) := PS.weak (ps_ret he) fun E σ H ⟨ρ, fl, er, hf, k⟩ => by
  obtain ⟨d, h1, rfl⟩ := Option.map_eq_some_iff.mp hf
  exact ⟨ρ, d, er.toER, h1, fun v H' s r => k σ v H' (er.same s) (r.back er.sm)⟩
/-- x.nm = e, x a slot's object -/
theorem so_fld {x nm : Str} {px pos' : Pos} (i j : Nat) (hN : X.N[i]? = some x) (hv : Vis X.env.scope x) (he : FE X e f) (hj : FN[j]? = some nm := by rfl) (hd : (x == ("__debug__" : Str)) = false := by decide) (hcd : (x == ("__classdict__" : Str)) = false := by decide)
    (hs : swapsWith e (some (.Attribute (.Name x px) nm pos')) pos.line X.env = pure false := by rfl) : SO X T H0 EX (.Assign [.Attribute (.Name x px) nm pos'] e pos) (oFld i j f) :=
  PS.weak (ps_fld (pe_var hN hv hd hcd) he hs) fun E σ H ⟨ρ, fl, er, hf, k⟩ => by
    obtain ⟨d, h1, h2⟩ := Option.bind_eq_some_iff.mp hf
    split at h2
    · rename_i o c ds hi
      obtain ⟨es, h3, rfl⟩ := Option.map_eq_some_iff.mp h2
      refine ⟨ρ, d, er.toER, h1, fun v H1 s1 r1 => ?_⟩
      have er1 := er.same s1
      obtain ⟨w, hw, b, dx, vs, rfl, ho, hc, hl, hb, hr⟩ := er1.slot i _ hi
      have hlen := hr.length
      have hj3 : j < 3 := by
        have := (List.getElem?_eq_some_iff.mp hj).1
        exact this
      have hjl : j ≤ vs.length := by
        unfold putD at h3
        split at h3
        · omega
        · split at h3
          · omega
          · cases h3
      have hext : Ext H1 (upd H1 b (.ins c dx (FN.zip (if j < vs.length then vs.set j v else vs ++ [v])))) := Ext.updO (.inl (by rw [hb]; trivial))
      have hr2 : ∀ Hq, Ext H1 Hq → RepL X.K Hq es (if j < vs.length then vs.set j v else vs ++ [v]) := fun Hq hx => by
        unfold putD at h3
        by_cases hq : j < ds.length
        · rw [if_pos hq] at h3; cases h3
          rw [if_pos (by omega)]
          exact (hr.ext hx).set j (r1.ext hx)
        · rw [if_neg hq] at h3
          split at h3
          · cases h3
            rw [if_neg (by omega)]
            exact (hr.ext hx).append (RepL.one (r1.ext hx))
          · cases h3
      obtain ⟨er2, ext⟩ := er1.oput (H' := upd H1 b (.ins c dx (FN.zip (if j < vs.length then vs.set j v else vs ++ [v])))) (es := es) hi hw (fun b' u n q => by rw [upd_ne n]; exact q) upd_same (by split <;> simp <;> omega) (hr2 _ hext)
      refine ⟨_, hw, b, c, dx, _, rfl, hb, hc.cls, hc.no _ (FN_mem hj), by simp [FN]; omega, ?_⟩
      rw [putF_zip hj hl hjl]
      exact k σ _ ((Ext.of s1).trans ext) er2
    · cases h2
end
end PL
/-! ### part PO6 -/
namespace PL
open PySem PySem.Spec PyProof.Rows L2 SupX

theorem cxUpN {P : Program} {w : World} : StX.CXUp (L2N.CX P w) := by
  rintro outer s H s2 H2 E e s' un kp ho ⟨a, B, H', cls, d, ea, fl, hok, ub, na, os, ag, he⟩
  have f1 : ∀ b o, s.heap.get? b = some o → H b = none → H2 b = none := fun b o q n => un.free b o q n (by simp)
  refine ⟨a, B, H', cls, d, ea, fl, hok, ⟨fun b o q n hb => ub.keep b o (kp b o q) (f1 b o q n) hb, fun b o q hb => ub.slot b o (kp b o q) hb, fun b o q n => ub.free b o (kp b o q) (f1 b o q n), fun b o q hb => ub.there b o (kp b o q) hb,
    fun b xs q => ub.tups b xs (un.tups b xs q), fun b o xs q => ub.frzs b o xs (un.frzs b o xs q), fun b ps q => ?_⟩, na, os.trans ho, ag, he⟩
  obtain ⟨m1, e1⟩ := un.tbls b ps q
  obtain ⟨m2, e2⟩ := ub.tbls b _ e1
  exact ⟨m1 ++ m2, by rw [e2, Array.append_assoc]⟩
/-- a def that may raise, by its body -/
theorem fun_okN {P : Program} {w : World} {K : PySem.W.Frag} {mg : Str → Option Value} {base : Heap} {x qual : Str} {st : Stmt} {f : Addr} {fd : FuncData} {N ps : List Str} {k : Nat} {sp : Sp} (F : Fun K x qual st f fd) (S : FnScope N ps (defScope st)) (len : ∀ vs H Q E, sp vs H Q E → vs.length = ps.length)
    (hb : ∀ (cdv : Value) (A : Around) (outer : List Env) (s : Shared) (H : Hp) (vs : List V) (Q : VK) (E : XK), Room k (A.deeper (envOfC qual (defScope st) s.heap.objs.size f cdv)) → sp vs H Q E →
      ∃ t, PSs (cxOf (L2N.CX P w) P w K mg base N qual (defScope st) f cdv A outer s H E) (defBody st) t ∧ t { nx := fun _ H' => Q .non H', rt := Q } (start N vs) H) : FnOk P w K mg base (L2N.CX P w) (k + 1) f fd ps sp := by
  obtain ⟨oc, od, kV, doc, pm, an, cdv, ct, osl, rfl, lk, hcd⟩ := F.ex
  exact fn_of lk hcd S len fun A outer s H vs Q E hr hsp => hb cdv A outer s H vs Q E hr hsp

/-! ### expressions that change objects -/
inductive Eo where
  | ok (d : D) (ρ : Rho) | ex (C : Addr) (ρ : Rho)
def EoK (K : PySem.W.Frag) (T : List (Addr × Str)) (H0 : Hp) (EX : XK) (H : Hp) (σ : L2.St) (Q : VK) : Eo → Prop
  | .ok d ρ => ∀ v H', Ext H H' → RO T K H0 H' σ ρ → RepF K H' d v → Q v H'
  | .ex C ρ => ∀ H', Ext H H' → RO T K H0 H' σ ρ → EX (.ref C) none H'
def tZ (K : PySem.W.Frag) (T : List (Addr × Str)) (H0 : Hp) (EX : XK) (f : Rho → Option Eo) : TE := fun σ H Q => ∃ ρ r, RO T K H0 H σ ρ ∧ f ρ = some r ∧ EoK K T H0 EX H σ Q r
def ZE (X : Cx) (T : List (Addr × Str)) (H0 : Hp) (EX : XK) (e : Expr) (f : Rho → Option Eo) : Prop := PE X e (tZ X.K T H0 EX f)
inductive Eb where
  | ok (b : Bool) (ρ : Rho) | ex (C : Addr) (ρ : Rho)
def EbK (K : PySem.W.Frag) (T : List (Addr × Str)) (H0 : Hp) (EX : XK) (H : Hp) (σ : L2.St) (Q : Bool → Hp → Prop) : Eb → Prop
  | .ok b ρ => ∀ H', Ext H H' → RO T K H0 H' σ ρ → Q b H'
  | .ex C ρ => ∀ H', Ext H H' → RO T K H0 H' σ ρ → EX (.ref C) none H'
def tZB (K : PySem.W.Frag) (T : List (Addr × Str)) (H0 : Hp) (EX : XK) (f : Rho → Option Eb) : TT := fun σ H Q => ∃ ρ r, RO T K H0 H σ ρ ∧ f ρ = some r ∧ EbK K T H0 EX H σ Q r
def ZT (X : Cx) (T : List (Addr × Str)) (H0 : Hp) (EX : XK) (e : Expr) (f : Rho → Option Eb) : Prop := PT X e (tZB X.K T H0 EX f)
def ZW (X : Cx) (T : List (Addr × Str)) (H0 : Hp) (EX : XK) (e : Expr) (f : Rho → Option Eb) : Prop := PW X e (tZB X.K T H0 EX f)
def zUp (f : Rho → Option D) : Rho → Option Eo := fun ρ => (f ρ).map fun d => .ok d ρ
def zbUp (f : Rho → Option Bool) : Rho → Option Eb := fun ρ => (f ρ).map fun d => .ok d ρ
def zBind {α β : Type} (o : Option α) (k : α → Option β) : Option β := o.bind k
/-- a op b, a may change objects, b only reads -/
def zOp (g : D → D → Option D) (fa : Rho → Option Eo) (fb : Rho → Option D) : Rho → Option Eo := fun ρ => (fa ρ).bind fun r => match r with
  | .ok x ρ1 => (fb ρ1).bind fun y => (g x y).map fun d => .ok d ρ1
  | .ex C ρ1 => some (.ex C ρ1)
def zbOp (g : D → D → Option D) (fa : Rho → Option Eo) (fb : Rho → Option D) : Rho → Option Eb := fun ρ => (fa ρ).bind fun r => match r with
  | .ok x ρ1 => (fb ρ1).bind fun y => (g x y).bind fun d => (asB d).map fun b => .ok b ρ1
  | .ex C ρ1 => some (.ex C ρ1)
def zOr (f1 f2 : Rho → Option Eb) : Rho → Option Eb := fun ρ => (f1 ρ).bind fun r => match r with
  | .ok b ρ1 => if b = true then some (.ok true ρ1) else f2 ρ1
  | .ex C ρ1 => some (.ex C ρ1)
def zAnd (f1 f2 : Rho → Option Eb) : Rho → Option Eb := fun ρ => (f1 ρ).bind fun r => match r with
  | .ok b ρ1 => if b = true then f2 ρ1 else some (.ok false ρ1)
  | .ex C ρ1 => some (.ex C ρ1)
def zNot (f1 : Rho → Option Eb) : Rho → Option Eb := fun ρ => (f1 ρ).map fun r => match r with
  | .ok b ρ1 => .ok (!b) ρ1
  | .ex C ρ1 => .ex C ρ1
def zElse {α : Type} (f1 f2 : Rho → Option α) : Rho → Option α := fun ρ => (f1 ρ).orElse fun _ => f2 ρ
def oDo (f : Rho → Option Eo) : Rho → Option Fo := fun ρ => (f ρ).map fun r => match r with
  | .ok _ ρ1 => .nx ρ1
  | .ex C ρ1 => .ex C ρ1
def oSetZ (i : Nat) (f : Rho → Option Eo) : Rho → Option Fo := fun ρ => (f ρ).map fun r => match r with
  | .ok d ρ1 => .nx (ρ1.set i (some d))
  | .ex C ρ1 => .ex C ρ1
def oRetZ (f : Rho → Option Eo) : Rho → Option Fo := fun ρ => (f ρ).map fun r => match r with
  | .ok d ρ1 => .ro ρ1 d
  | .ex C ρ1 => .ex C ρ1
def oIfZ (c : Rho → Option Eb) (g1 g2 : Rho → Option Fo) : Rho → Option Fo := fun ρ => (c ρ).bind fun r => match r with
  | .ok b ρ1 => if b = true then g1 ρ1 else g2 ρ1
  | .ex C ρ1 => some (.ex C ρ1)
section
variable {X : Cx} {T : List (Addr × Str)} {H0 : Hp} {EX : XK} {st : Stmt} {g g1 g2 : Rho → Option Fo} {e a b : Expr} {rest : List Expr} {f : Rho → Option D} {fa : Rho → Option Eo} {fb : Rho → Option D} {fc f1 f2 : Rho → Option Eb} {pos : Pos}
theorem ze_of (h : FE X e f) : ZE X T H0 EX e (zUp f) := PE.weak h fun σ H Q ⟨ρ, r, er, hf, k⟩ => by
  obtain ⟨d, h1, rfl⟩ := Option.map_eq_some_iff.mp hf
  exact ⟨ρ, d, er.toER, h1, fun v H' s r => k v H' (Ext.of s) (er.same s) r⟩
theorem zt_of {f : Rho → Option Bool} (h : BE X e f) : ZT X T H0 EX e (zbUp f) := PT.weak h fun σ H Q ⟨ρ, r, er, hf, k⟩ => by
  obtain ⟨d, h1, rfl⟩ := Option.map_eq_some_iff.mp hf
  exact ⟨ρ, d, er.toER, h1, fun H' s => k H' (Ext.of s) (er.same s)⟩
theorem PE.or {t t' : TE} (h : PE X e t) (h' : PE X e t') : PE X e (fun σ H Q => t σ H Q ∨ t' σ H Q) := ⟨fun pins s σ H Q I q => q.elim (fun q => h.run pins s σ H Q I q) fun q => h'.run pins s σ H Q I q⟩
theorem ze_else {f1 f2 : Rho → Option Eo} (h1 : ZE X T H0 EX e f1) (h2 : ZE X T H0 EX e f2) : ZE X T H0 EX e (zElse f1 f2) := PE.weak (PE.or h1 h2) fun σ H Q ⟨ρ, r, er, hf, k⟩ => by
  unfold zElse at hf
  cases h : f1 ρ with
  | some r1 => rw [h] at hf; cases hf; exact .inl ⟨ρ, r, er, h, k⟩
  | none => rw [h] at hf; exact .inr ⟨ρ, r, er, hf, k⟩
theorem fe_else {f1 f2 : Rho → Option D} (h1 : FE X e f1) (h2 : FE X e f2) : FE X e (zElse f1 f2) := PE.weak (PE.or h1 h2) fun σ H Q ⟨ρ, r, er, hf, k⟩ => by
  unfold zElse at hf
  cases h : f1 ρ with
  | some r1 => rw [h] at hf; cases hf; exact .inl ⟨ρ, r, er, h, k⟩
  | none => rw [h] at hf; exact .inr ⟨ρ, r, er, hf, k⟩
theorem tz_op {gD : D → D → Option D} {r : R2} (hr : RulF X.K gD r) {σ : L2.St} {H : Hp} {Q : VK} (h : tZ X.K T H0 EX (zOp gD fa fb) σ H Q) : tOp r (tZ X.K T H0 EX fa) (tW X.K fb) σ H Q := by
  obtain ⟨ρ, r0, er, hf, k⟩ := h
  obtain ⟨r1, h1, h2⟩ := Option.bind_eq_some_iff.mp hf
  cases r1 with
  | ex C ρ1 => cases h2; exact ⟨ρ, _, er, h1, k⟩
  | ok x ρ1 =>
    obtain ⟨y, h3, h4⟩ := Option.bind_eq_some_iff.mp h2
    obtain ⟨d, h5, rfl⟩ := Option.map_eq_some_iff.mp h4
    refine ⟨ρ, _, er, h1, fun v H1 e1 er1 r1 => ⟨ρ1, y, er1.toER, h3, fun u H2 s2 r2 => hr x y d v u H2 Q (.of (r1.ext (Ext.of s2))) r2 h5 fun v' H' s' r' => k v' H' ((e1.trans (Ext.of s2)).trans (Ext.of s')) ((er1.same s2).same s') r'⟩⟩
theorem ze_cmp {op : CmpOp} {gD : D → D → Option D} (r : CmpR X op gD) (ha : ZE X T H0 EX a fa) (hb : WE X b fb) (hm : behindInMarks op b = false) : ZE X T H0 EX (.Compare a [op] [b] pos) (zOp gD fa fb) := by
  obtain ⟨r, ho, hr⟩ := r.has
  exact PE.weak (pe_cmpR ho ha hb hm) fun σ H Q h => tz_op hr h
theorem zt_cmp {op : CmpOp} {gD : D → D → Option D} (r : CmpR X op gD) (ha : ZE X T H0 EX a fa) (hb : WE X b fb) (hm : behindInMarks op b = false) : ZT X T H0 EX (.Compare a [op] [b] pos) (zbOp gD fa fb) := by
  obtain ⟨r, ho, hr⟩ := r.has
  refine PT.weak (pt_cmpR ho ha hb hm) fun σ H Q ⟨ρ, r0, er, hf, k⟩ => ?_
  obtain ⟨r1, h1, h2⟩ := Option.bind_eq_some_iff.mp hf
  cases r1 with
  | ex C ρ1 => cases h2; exact ⟨ρ, _, er, h1, k⟩
  | ok x ρ1 =>
    obtain ⟨y, h3, h4⟩ := Option.bind_eq_some_iff.mp h2
    obtain ⟨d, h5, h6⟩ := Option.bind_eq_some_iff.mp h4
    obtain ⟨b, h7, rfl⟩ := Option.map_eq_some_iff.mp h6
    have := asB_some h7
    subst this
    refine ⟨ρ, _, er, h1, fun v H1 e1 er1 r1 => ⟨ρ1, y, er1.toER, h3, fun u H2 s2 r2 => hr x y _ v u H2 _ (.of (r1.ext (Ext.of s2))) r2 h5 fun v' H' s' r' => ⟨b, repF_blv r', k H' ((e1.trans (Ext.of s2)).trans (Ext.of s')) ((er1.same s2).same s')⟩⟩⟩
theorem zw_or1 (h : ZT X T H0 EX a f1) : ZW X T H0 EX (.BoolOp .Or [a] pos) f1 := pw_or1 h
theorem zw_and1 (h : ZT X T H0 EX a f1) : ZW X T H0 EX (.BoolOp .And [a] pos) f1 := pw_and1 h
theorem zw_or (ha : ZT X T H0 EX a f1) (hb : ZW X T H0 EX (.BoolOp .Or (b :: rest) pos) f2) : ZW X T H0 EX (.BoolOp .Or (a :: b :: rest) pos) (zOr f1 f2) :=
  PW.weak (pw_or ha hb) fun σ H Q ⟨ρ, r0, er, hf, k⟩ => by
    obtain ⟨r1, h1, h2⟩ := Option.bind_eq_some_iff.mp hf
    cases r1 with
    | ex C ρ1 => cases h2; exact ⟨ρ, _, er, h1, k⟩
    | ok c ρ1 =>
      refine ⟨ρ, _, er, h1, fun H1 e1 er1 => ?_⟩
      cases c with
      | true => simp only [if_true] at h2; cases h2; exact k H1 e1 er1
      | false =>
        simp only [Bool.false_eq_true, if_false] at h2
        refine ⟨ρ1, r0, er1, h2, ?_⟩
        cases r0 with
        | ok c ρ2 => exact fun H2 e2 er2 => k H2 (e1.trans e2) er2
        | ex C ρ2 => exact fun H2 e2 er2 => k H2 (e1.trans e2) er2
theorem zw_and (ha : ZT X T H0 EX a f1) (hb : ZW X T H0 EX (.BoolOp .And (b :: rest) pos) f2) : ZW X T H0 EX (.BoolOp .And (a :: b :: rest) pos) (zAnd f1 f2) :=
  PW.weak (pw_and ha hb) fun σ H Q ⟨ρ, r0, er, hf, k⟩ => by
    obtain ⟨r1, h1, h2⟩ := Option.bind_eq_some_iff.mp hf
    cases r1 with
    | ex C ρ1 => cases h2; exact ⟨ρ, _, er, h1, k⟩
    | ok c ρ1 =>
      refine ⟨ρ, _, er, h1, fun H1 e1 er1 => ?_⟩
      cases c with
      | false => simp only [Bool.false_eq_true, if_false] at h2; cases h2; exact k H1 e1 er1
      | true =>
        simp only [if_true] at h2
        refine ⟨ρ1, r0, er1, h2, ?_⟩
        cases r0 with
        | ok c ρ2 => exact fun H2 e2 er2 => k H2 (e1.trans e2) er2
        | ex C ρ2 => exact fun H2 e2 er2 => k H2 (e1.trans e2) er2
theorem zt_w (h : ZW X T H0 EX e f1) : ZT X T H0 EX e f1 := PW.pt h
theorem zt_not (h : ZT X T H0 EX a f1) : ZT X T H0 EX (.UnaryOp .Not a pos) (zNot f1) := PT.weak (pt_not h) fun σ H Q ⟨ρ, r0, er, hf, k⟩ => by
  obtain ⟨r1, h1, rfl⟩ := Option.map_eq_some_iff.mp hf
  cases r1 with
  | ex C ρ1 => exact ⟨ρ, _, er, h1, k⟩
  | ok c ρ1 => exact ⟨ρ, _, er, h1, fun H1 e1 er1 => k H1 e1 er1⟩
/-- statements -/
theorem so_expr (he : ZE X T H0 EX e fa) (hs : swapsWith e none pos.line X.env = pure false := by rfl) : SO X T H0 EX (.Expr e pos) (oDo fa) := PS.weak (ps_expr he hs) fun E σ H ⟨ρ, fl, er, hf, k⟩ => by
  obtain ⟨r1, h1, rfl⟩ := Option.map_eq_some_iff.mp hf
  cases r1 with
  | ex C ρ1 => exact ⟨ρ, _, er, h1, fun H' _ r => k σ H' r⟩
  | ok d ρ1 => exact ⟨ρ, _, er, h1, fun v H' e1 er1 r1 => k σ H' e1 er1⟩
theorem so_setZ {x : Str} {pos' : Pos} (i : Nat) (hN : X.N.Nodup) (hi : X.N[i]? = some x) (hx : Loc X.env.scope x) (he : ZE X T H0 EX e fa) (hf : X.fn x = true ∨ X.env.scope.names.lookup x = some .local)
    (hs : swapsWith e (some (.Name x pos')) pos.line X.env = pure false := by rfl) : SO X T H0 EX (.Assign [.Name x pos'] e pos) (oSetZ i fa) :=
  PS.weak (ps_set hN hi hx he hs hf) fun E σ H ⟨ρ, fl, er, hf, k⟩ => by
    obtain ⟨r1, h1, rfl⟩ := Option.map_eq_some_iff.mp hf
    cases r1 with
    | ex C ρ1 => exact ⟨ρ, _, er, h1, fun H' _ r => k σ H' r⟩
    | ok d ρ1 => exact ⟨ρ, _, er, h1, fun v H' e1 er1 r1 => k _ H' e1 (er1.set (Same.refl _) (.of r1))⟩
theorem so_retZ (he : ZE X T H0 EX e fa) : SO X T H0 EX (.Return (some e) pos) (oRetZ fa) := PS.weak (ps_ret he) fun E σ H ⟨ρ, fl, er, hf, k⟩ => by
  obtain ⟨r1, h1, rfl⟩ := Option.map_eq_some_iff.mp hf
  cases r1 with
  | ex C ρ1 => exact ⟨ρ, _, er, h1, fun H' _ r => k σ H' r⟩
  | ok d ρ1 => exact ⟨ρ, _, er, h1, fun v H' e1 er1 r1 => k σ v H' er1 (.of r1)⟩
theorem so_ifZ {cx : Expr} {s1 s2 : List Stmt} (hc : ZT X T H0 EX cx fc) (h1 : SOs X T H0 EX s1 g1) (h2 : SOs X T H0 EX s2 g2) : SO X T H0 EX (.If cx s1 s2 pos) (oIfZ fc g1 g2) :=
  PS.weak (ps_if hc h1 h2) fun E σ H ⟨ρ, fl, er, hf, k⟩ => by
    obtain ⟨r1, h3, h4⟩ := Option.bind_eq_some_iff.mp hf
    cases r1 with
    | ex C ρ1 => cases h4; exact ⟨ρ, _, er, h3, fun H' _ r => k σ H' r⟩
    | ok b ρ1 =>
      refine ⟨ρ, _, er, h3, fun H1 e1 er1 => ?_⟩
      cases b with
      | true => exact ⟨ρ1, fl, er1, by simpa using h4, k.ext e1⟩
      | false => exact ⟨ρ1, fl, er1, by simpa using h4, k.ext e1⟩
theorem so_raise {C : Addr} (h : PS X st (fun _ _ H => EX (.ref C) none H)) : SO X T H0 EX st (oRaise C) := PS.weak h fun E σ H ⟨ρ, fl, er, hf, k⟩ => by
  cases hf
  exact k σ H er
end

/-! ### what a method promises: its object is of the class C; F: attributes, arguments -/
inductive Mo where
  | ok (d : D) (ds : List D) | ex (C : Addr) (ds : List D)
/-- all but a stays -/
def SameX (a : Addr) (H H' : Hp) : Prop := ∀ b o, b ≠ a → H b = some o → H' b = some o
def ObAt (K : PySem.W.Frag) (H : Hp) (a C : Addr) (ds : List D) : Prop := ∃ dx vs, vs.length ≤ 3 ∧ H a = some (.ins C dx (FN.zip vs)) ∧ RepL K H ds vs
def MoK (K : PySem.W.Frag) (a C : Addr) (H : Hp) (Q : VK) (E : XK) : Mo → Prop
  | .ok d ds => ∀ v H', SameX a H H' → ObAt K H' a C ds → RepF K H' d v → Q v H'
  | .ex D ds => ∀ H', SameX a H H' → ObAt K H' a C ds → E (.ref D) none H'
def spM (K : PySem.W.Frag) (C : Addr) (n : Nat) (F : List D → List D → Option Mo) : Sp := fun vs H Q E => ∃ a rest fds args r, vs = .ref a :: rest ∧ args.length = n ∧ ObAt K H a C fds ∧ RepL K H args rest ∧ F fds args = some r ∧ MoK K a C H Q E r
/-- .. that only reads it -/
def Ro : Type := D ⊕ Addr
def RoK (K : PySem.W.Frag) (H : Hp) (Q : VK) (E : XK) : Ro → Prop
  | .inl d => ∀ v H', Same H H' → RepF K H' d v → Q v H'
  | .inr D => ∀ H', Same H H' → E (.ref D) none H'
def spR (K : PySem.W.Frag) (C : Addr) (n : Nat) (F : List D → List D → Option Ro) : Sp := fun vs H Q E => ∃ a rest fds args r, vs = .ref a :: rest ∧ args.length = n ∧ ObAt K H a C fds ∧ RepL K H args rest ∧ F fds args = some r ∧ RoK K H Q E r
def minus (H : Hp) (a : Addr) : Hp := fun b => if b = a then none else H b
theorem minus_same {H : Hp} {a : Addr} : Same (minus H a) H := fun b o h => by
  unfold minus at h
  split at h
  · cases h
  · exact h
theorem minus_self {H : Hp} {a : Addr} : minus H a a = none := by unfold minus; rw [if_pos rfl]
theorem sameX_of {H H' : Hp} {a : Addr} (h : Same (minus H a) H') : SameX a H H' := fun b o n e => h b o (by unfold minus; rw [if_neg n]; exact e)
/-- the slots at the entry -/
def rhoM (N : Nat) (a C : Addr) (fds args : List D) : Rho := some (.obj (some a) C fds) :: (args.map some ++ List.replicate (N - 1 - args.length) none)
theorem ers_startM {K : PySem.W.Frag} {H : Hp} {N : List Str} {a C : Addr} {fds args : List D} {rest : List V} (hc : OkCls K C) (o : ObAt K H a C fds) (r : RepL K H args rest) (hN : 1 ≤ N.length) : ERS K (minus H a) H (start N (.ref a :: rest)) (rhoM N.length a C fds args) := by
  obtain ⟨dx, vs, hl, hH, hr⟩ := o
  have e0 := ers_start (N := List.replicate (N.length - 1) ("" : Str)) r
  have eS : start N (.ref a :: rest) = some (.ref a) :: start (List.replicate (N.length - 1) ("" : Str)) rest := by
    unfold L2.start
    simp only [List.length_replicate, List.length_cons, List.map_cons, List.cons_append]
    rw [show N.length - 1 - rest.length = N.length - (rest.length + 1) by omega]
  rw [eS]
  unfold rhoM
  rw [List.length_replicate] at e0
  have shift : ∀ {α : Type} {x : α} {l : List α} {i : Nat}, (x :: l)[i + 1]? = l[i]? := rfl
  have noO : ∀ (i : Nat) (o : Option Addr) (c : Addr) (ds : List D), (args.map some ++ List.replicate (N.length - 1 - args.length) none)[i]? ≠ some (some (D.obj o c ds)) := fun i o c ds z => by
    obtain ⟨v, hv, b, dx', vs', e1, _, _, _, hb, _⟩ := e0.slot i _ z
    have := e0.slot i _ z
    by_cases hi : i < args.length
    · rw [List.getElem?_append_left (by simpa using hi), List.getElem?_map] at z
      obtain ⟨x, h1, h2⟩ := Option.map_eq_some_iff.mp z
      cases h2
      exact repL_noObj r h1
    · rw [List.getElem?_append_right (by simpa using hi)] at z
      obtain ⟨_, h2⟩ := List.getElem?_eq_some_iff.mp z
      rw [List.getElem_replicate] at h2
      cases h2
  have noL : ∀ (i : Nat) (ds : List D), (args.map some ++ List.replicate (N.length - 1 - args.length) none)[i]? ≠ some (some (D.opn ds)) := fun i ds z => by
    by_cases hi : i < args.length
    · rw [List.getElem?_append_left (by simpa using hi), List.getElem?_map] at z
      obtain ⟨x, h1, h2⟩ := Option.map_eq_some_iff.mp z
      cases h2
      exact repL_noOpn r h1
    · rw [List.getElem?_append_right (by simpa using hi)] at z
      obtain ⟨_, h2⟩ := List.getElem?_eq_some_iff.mp z
      rw [List.getElem_replicate] at h2
      cases h2
  refine ⟨⟨?_, fun i d q => ?_⟩, minus_same, fun i ds b q1 _ => ?_, fun i j ds es b q1 _ _ _ => ?_, fun i o c ds b q1 q2 => ?_, fun i j o o' c c' ds es b q1 q2 _ _ => ?_⟩
  · simp only [List.length_cons]; rw [e0.len]
  · cases i with
    | zero => cases q; exact ⟨.ref a, rfl, a, dx, vs, rfl, fun b z => by cases z; rfl, hc, hl, hH, hr⟩
    | succ i =>
      rw [shift] at q ⊢
      obtain ⟨v, h1, h2⟩ := e0.slot i d q
      exact ⟨v, h1, h2⟩
  · cases i with
    | zero => cases q1
    | succ i => rw [shift] at q1; exact (noL i ds q1).elim
  · cases i with
    | zero => cases q1
    | succ i => rw [shift] at q1; exact (noL i ds q1).elim
  · cases i with
    | zero => cases q1; cases q2; exact minus_self
    | succ i => rw [shift] at q1; exact (noO i o c ds q1).elim
  · cases i with
    | zero =>
      cases j with
      | zero => rfl
      | succ j => rw [shift] at q2; exact (noO j _ _ _ q2).elim
    | succ i => rw [shift] at q1; exact (noO i o c ds q1).elim
def MoOf (a C : Addr) : Fo → Mo → Prop
  | .ro ρ d, .ok d' ds => (d' = d ∧ ∀ xs, d ≠ .opn xs) ∧ ρ[0]? = some (some (.obj (some a) C ds))
  | .nx ρ, .ok d' ds => d' = .non ∧ ρ[0]? = some (some (.obj (some a) C ds))
  | .ex D ρ, .ex D' ds => D' = D ∧ ρ[0]? = some (some (.obj (some a) C ds))
  | _, _ => False
theorem obAt_of {K : PySem.W.Frag} {T : List (Addr × Str)} {H0 H : Hp} {σ : L2.St} {ρ : Rho} {a C : Addr} {ds : List D} (er : RO T K H0 H σ ρ) (h : ρ[0]? = some (some (.obj (some a) C ds))) : ObAt K H a C ds := by
  obtain ⟨v, hv, b, dx, vs, e1, ho, hc, hl, hb, hr⟩ := er.slot 0 _ h
  have := ho a rfl
  subst this
  exact ⟨dx, vs, hl, hb, hr⟩
theorem repM_f {K : PySem.W.Frag} {H0 H : Hp} {d : D} {v : V} (h : RepM K H0 H d v) (n : ∀ xs, d ≠ .opn xs) : RepF K H d v := by
  cases d with
  | opn xs => exact absurd rfl (n xs)
  | _ => exact h
/-- the ends of a method's body -/
theorem mo_end {K : PySem.W.Frag} {H : Hp} {Q : VK} {E : XK} {a C : Addr} {fo : Fo} {r : Mo} (h : MoOf a C fo r) (k : MoK K a C H Q E r) : FoK K [] (minus H a) E H { nx := fun _ H' => Q .non H', rt := Q } fo := by
  cases fo <;> cases r <;> try exact h.elim
  · obtain ⟨rfl, h1⟩ := h
    exact fun σ H' _ er => k .non H' (sameX_of er.sm) (obAt_of er h1) repF_non
  · obtain ⟨⟨rfl, hn⟩, h1⟩ := h
    exact fun σ v H' er rv => k v H' (sameX_of er.sm) (obAt_of er h1) (repM_f rv hn)
  · obtain ⟨rfl, h1⟩ := h
    exact fun σ H' er => k H' (sameX_of er.sm) (obAt_of er h1)
section
variable {P : Program} {w : World} {K : PySem.W.Frag} {mg : Str → Option Value} {base : Heap} {x qual : Str} {st : Stmt} {f : Addr} {fd : FuncData} {N ps : List Str} {k n : Nat} {C : Addr}
theorem fn_meth {g : Addr → Rho → Option Fo} {F : List D → List D → Option Mo} (Fu : Fun K x qual st f fd) (S : FnScope N ps (defScope st)) (hn : ps.length = n + 1) (hN : 1 ≤ N.length) (hc : OkCls K C)
    (h : ∀ (a : Addr) (cdv : Value) (A : Around) (outer : List Env) (s : Shared) (H H0 : Hp) (E : XK), Room k (A.deeper (envOfC qual (defScope st) s.heap.objs.size f cdv)) →
      SOs (cxOf (L2N.CX P w) P w K mg base N qual (defScope st) f cdv A outer s H E) [] H0 E (defBody st) (g a))
    (hF : ∀ a fds args r, args.length = n → F fds args = some r → ∃ fo, g a (rhoM N.length a C fds args) = some fo ∧ MoOf a C fo r) : FnOk P w K mg base (L2N.CX P w) (k + 1) f fd ps (spM K C n F) := by
  refine fun_okN Fu S (fun vs H Q E ⟨a, rest, fds, args, r, e, hl, _, rr, _⟩ => by rw [e, List.length_cons, rr.length, hl, hn]) (fun cdv A outer s H vs Q E hr hsp => ?_)
  obtain ⟨a, rest, fds, args, r, rfl, hl, o, rr, hFr, mk⟩ := hsp
  obtain ⟨fo, h1, h2⟩ := hF a fds args r hl hFr
  exact ⟨_, h a cdv A outer s H (minus H a) E hr, _, fo, RO.nil (ers_startM hc o rr hN), h1, mo_end h2 mk⟩
end
end PL
/-! ### part PO7 -/
namespace PL
open PySem PySem.Spec PyProof.Rows L2 SupX

/-! ### methods that only read -/
def tRd (K : PySem.W.Frag) (EX : XK) (g : Rho → Option Ro) : TS := fun E σ H => ∃ ρ r, ER K H σ ρ ∧ g ρ = some r ∧ (match r with
  | .inl d => ∀ v H', Same H H' → RepF K H' d v → E.rt v H'
  | .inr C => ∀ H', Same H H' → EX (.ref C) none H')
def RS (X : Cx) (EX : XK) (st : List Stmt) (g : Rho → Option Ro) : Prop := PSs X st (tRd X.K EX g)
def rRet (f : Rho → Option D) : Rho → Option Ro := fun ρ => (f ρ).map .inl
def rIf (C : Addr) (c : Rho → Option Bool) (g : Rho → Option Ro) : Rho → Option Ro := fun ρ => (c ρ).bind fun k => if k = true then some (.inr C) else g ρ
section
variable {X : Cx} {EX : XK} {sts : List Stmt} {g : Rho → Option Ro} {e cx : Expr} {f : Rho → Option D} {c : Rho → Option Bool} {pos : Pos}
theorem rs_ret (he : FE X e f) : RS X EX [.Return (some e) pos] (rRet f) := PSs.weak (pss_one (ps_ret he)) fun E σ H ⟨ρ, r, er, hf, k⟩ => by
  obtain ⟨d, h1, rfl⟩ := Option.map_eq_some_iff.mp hf
  exact ⟨ρ, d, er, h1, k⟩
theorem rs_if {st : Stmt} {C : Addr} (hc : BE X cx c) (hr : PS X st (fun _ _ H => EX (.ref C) none H)) (h : RS X EX sts g) : RS X EX (.If cx [st] [] pos :: sts) (rIf C c g) :=
  PSs.weak (pss_cons (ps_if hc (pss_one hr) pss_nil) h) fun E σ H ⟨ρ, r, er, hf, k⟩ => by
    obtain ⟨b, h1, h2⟩ := Option.bind_eq_some_iff.mp hf
    refine ⟨ρ, b, er, h1, fun H1 s1 => ?_⟩
    cases b with
    | true =>
      simp only [if_true] at h2 ⊢
      cases h2
      exact k H1 s1
    | false =>
      simp only [Bool.false_eq_true, if_false] at h2 ⊢
      refine ⟨ρ, r, er.same s1, h2, ?_⟩
      cases r with
      | inl d => exact fun v H' s' r' => k v H' (s1.trans s') r'
      | inr C => exact fun H' s' => k H' (s1.trans s')
end
section
variable {P : Program} {w : World} {K : PySem.W.Frag} {mg : Str → Option Value} {base : Heap} {x qual : Str} {st : Stmt} {f : Addr} {fd : FuncData} {N ps : List Str} {k n : Nat} {C : Addr}
theorem fn_read {g : Rho → Option Ro} {F : List D → List D → Option Ro} (Fu : Fun K x qual st f fd) (S : FnScope N ps (defScope st)) (hn : ps.length = n + 1) (hN : 1 ≤ N.length) (hc : OkCls K C)
    (h : ∀ (cdv : Value) (A : Around) (outer : List Env) (s : Shared) (H : Hp) (E : XK), Room k (A.deeper (envOfC qual (defScope st) s.heap.objs.size f cdv)) →
      RS (cxOf (L2N.CX P w) P w K mg base N qual (defScope st) f cdv A outer s H E) E (defBody st) g)
    (hF : ∀ a fds args r, args.length = n → F fds args = some r → g (rhoM N.length a C fds args) = some r) : FnOk P w K mg base (L2N.CX P w) (k + 1) f fd ps (spR K C n F) := by
  refine fun_okN Fu S (fun vs H Q E ⟨a, rest, fds, args, r, e, hl, _, rr, _⟩ => by rw [e, List.length_cons, rr.length, hl, hn]) (fun cdv A outer s H vs Q E hr hsp => ?_)
  obtain ⟨a, rest, fds, args, r, rfl, hl, o, rr, hFr, mk⟩ := hsp
  exact ⟨_, h cdv A outer s H E hr, _, r, (ers_startM hc o rr hN).toER, hF a fds args r hl hFr, mk⟩
end
/-- by positions -/
theorem fnr_of {CX : CXT} {P : Program} {w : World} {K : PySem.W.Frag} {mg : Str → Option Value} {base : Heap} {k : Nat} {f : Addr} {fd : FuncData} {ps : List Str} {sp : Sp} (F : FnOk P w K mg base CX k f fd ps sp) (hb : Binds K fd ps []) : FnR P w K mg base CX k f sp := by
  intro A outer s H us vs Q E hr e0 r hsp
  have KX : K.In s.heap := e0.mod.kin.keeps fun b o e => (e0.bs b o e).1
  have hl : us.length = ps.length := by rw [← r.length]; exact F.len _ _ _ _ hsp
  have b := hb s us KX (by rw [List.append_nil]; exact hl)
  rw [List.append_nil] at b
  exact F.run A outer s H ⟨us, []⟩ us vs Q E hr e0 b r hsp

/-! ### calls of methods, properties -/
/-- e.m(..) by a promise by positions; e a slot's object of the class C, changed -/
def zMeth (i : Nat) (C : Addr) (n : Nat) (F : List D → List D → Option Mo) (fs : Rho → Option (List D)) : Rho → Option Eo := fun ρ => match ρ[i]? with
  | some (some (.obj o c ds)) => if c = C then (fs ρ).bind fun args => if args.length = n then (F ds args).map fun r => match r with
    | .ok d es => .ok d (ρ.set i (some (.obj o c es)))
    | .ex D es => .ex D (ρ.set i (some (.obj o c es))) else none else none
  | _ => none
/-- e.m(..), e only read -/
def gRead (C : Addr) (n : Nat) (F : List D → List D → Option Ro) (x : D) (args : List D) : Option D := match x with
  | .obj _ c ds => if c = C ∧ args.length = n then (F ds args).bind fun r => match r with
    | .inl d => some d
    | .inr _ => none else none
  | _ => none
def fRead (C : Addr) (n : Nat) (F : List D → List D → Option Ro) (f : Rho → Option D) (fs : Rho → Option (List D)) : Rho → Option D := fun ρ => (f ρ).bind fun x => (fs ρ).bind (gRead C n F x)
theorem noLook {vs : List V} {m : Str} (h : m ∉ FN) : (FN.zip vs).lookup m = none := by
  rw [List.lookup_eq_none_iff]
  intro p hp
  have := (List.of_mem_zip hp).1
  simp only [bne_iff_ne, ne_eq, beq_eq_false_iff_ne]
  rintro rfl
  exact h this
section
variable {X : Cx} {CX : CXT} {T : List (Addr × Str)} {H0 : Hp} {EX : XK} {k n : Nat} {C g : Addr} {m : Str} {e : Expr} {es : List Expr} {f : Rho → Option D} {fs : Rho → Option (List D)} {apos pos : Pos}
theorem methR0 {o : Expr} {sp : Sp} {E : XK} {ta : TE} {pl : Sem Bool} (he : PE X o ta) (c : Cls X.K C) (hm : Meth X.K C m g)
    (F : FnR X.prog X.w X.K X.mg X.base CX k g sp) (hr : Room k X.A) (hx : Passes CX X E)
    (ht : eval (.Call (.Attribute o m apos) [] [] pos) X.env = (do
      let ov ← eval o X.env
      standAt apos.atName
      let (f, first) ← holding [ov] (getMethod ov m pl)
      callWith pos f first (backTo pos (starEach [] X.env)) (backToKw pos (keywordEach [] X.env))) := by rfl) :
    PE X (.Call (.Attribute o m apos) [] [] pos) (tMethR C m sp E ta L2.tNil) := by
  refine ⟨fun pins s σ H Q I h => ?_⟩
  refine PySem.W.methodCall_KW (pl := pl) (thn (he.run pins s σ H _ I h) fun u s1 ⟨x, H1, I1, rx, a, dx, fs, ex, ea, l, q⟩ => ?_) ht
  subst ex
  obtain rfl : u = Value.ref a := rx
  refine getmeth_ok I1 ea c hm l ?_
  exact PySem.W.callWith_K0 (first := [.ref a]) I1.kIn hm.kp (wpAny_call (run_fnR (us := [.ref a]) (vs := [.ref a]) F hr hx I1 (.cons rfl .nil) q))
theorem mo_call {F : List D → List D → Option Mo} {σ : L2.St} {H H1 : Hp} {ρ : Rho} {Q : VK} {i : Nat} {o : Option Addr} {ds args : List D} {vs : List V} {a : Addr} {r : Eo} (er : RO T X.K H0 H σ ρ) (s1 : Same H H1) (hi : ρ[i]? = some (some (.obj o C ds))) (hs : σ[i]? = some (some (.ref a)))
    (hl : args.length = n) (ra : RepL X.K H1 args vs) (h : (F ds args).map (fun r => match r with
      | Mo.ok d es => Eo.ok d (ρ.set i (some (.obj o C es)))
      | Mo.ex D es => Eo.ex D (ρ.set i (some (.obj o C es)))) = some r) (k : EoK X.K T H0 EX H σ Q r) : spM X.K C n F (.ref a :: vs) H1 Q EX := by
  obtain ⟨mo, hF, h2⟩ := Option.map_eq_some_iff.mp h
  have er1 := er.same s1
  obtain ⟨v, hv, b, dx, us, e1, ho, hc, hl3, hb, hr⟩ := er1.slot i _ hi
  rw [hs] at hv; cases hv; cases e1
  refine ⟨a, vs, ds, args, mo, rfl, hl, ⟨dx, us, hl3, hb, hr⟩, ra, hF, ?_⟩
  cases mo with
  | ok d es =>
    cases h2
    intro v H' sx ⟨dx', us', l', h', r'⟩ rv
    obtain ⟨er2, ext⟩ := er1.oput hi hs sx h' l' r'
    exact k v H' ((Ext.of s1).trans ext) er2 rv
  | ex D es =>
    cases h2
    intro H' sx ⟨dx', us', l', h', r'⟩
    exact k H' ((Ext.of s1).trans (er1.oput hi hs sx h' l' r').2) (er1.oput hi hs sx h' l' r').1
/-- x.m(e, ..) -/
theorem ze_meth {F : List D → List D → Option Mo} {x : Str} {px : Pos} {pl : Sem Bool} (i : Nat) (hN : X.N[i]? = some x) (hv : Vis X.env.scope x) (c : Cls X.K C) (hm : Meth X.K C m g) (Fn : FnR X.prog X.w X.K X.mg X.base CX k g (spM X.K C n F)) (hr : Room k X.A) (hx : Passes CX X EX) (ha : AE X (e :: es) fs)
    (hno : m ∉ FN := by decide) (hd : (x == ("__debug__" : Str)) = false := by decide) (hcd : (x == ("__classdict__" : Str)) = false := by decide)
    (hst : starEach (e :: es) X.env = (false, eval e X.env) :: starEach es X.env := by rfl) (hpl : (backTo pos (starEach es X.env)).any (·.1) = false := by rfl)
    (ht : eval (.Call (.Attribute (.Name x px) m apos) (e :: es) [] pos) X.env = (do
      let ov ← eval (.Name x px) X.env
      standAt apos.atName
      let (f, first) ← holding [ov] (getMethod ov m pl)
      callWith pos f first (backTo pos (starEach (e :: es) X.env)) (backToKw pos (keywordEach [] X.env))) := by rfl) :
    ZE X T H0 EX (.Call (.Attribute (.Name x px) m apos) (e :: es) [] pos) (zMeth i C n F fs) :=
  PE.weak (pe_methR (pe_var hN hv hd hcd) c hm Fn hr hx ha hst hpl ht) fun σ H Q ⟨ρ, r, er, hf, k⟩ => by
    unfold zMeth at hf
    split at hf
    · rename_i o c' ds hi
      split at hf
      · rename_i hC
        subst hC
        obtain ⟨args, h1, h2⟩ := Option.bind_eq_some_iff.mp hf
        split at h2
        · rename_i hl
          obtain ⟨v, hv, a, dx, us, rfl, ho, hc, hl3, hb, hr⟩ := er.slot i _ hi
          exact ⟨_, hv, a, dx, _, rfl, hb, noLook hno, ρ, args, er.toER, h1, fun vs H1 s1 r1 => mo_call er s1 hi hv hl r1 h2 k⟩
        · cases h2
      · cases hf
    · cases hf
/-- x.m() -/
theorem ze_meth0 {F : List D → List D → Option Mo} {x : Str} {px : Pos} {pl : Sem Bool} (i : Nat) (hN : X.N[i]? = some x) (hv : Vis X.env.scope x) (c : Cls X.K C) (hm : Meth X.K C m g) (Fn : FnR X.prog X.w X.K X.mg X.base CX k g (spM X.K C 0 F)) (hr : Room k X.A) (hx : Passes CX X EX)
    (hno : m ∉ FN := by decide) (hd : (x == ("__debug__" : Str)) = false := by decide) (hcd : (x == ("__classdict__" : Str)) = false := by decide)
    (ht : eval (.Call (.Attribute (.Name x px) m apos) [] [] pos) X.env = (do
      let ov ← eval (.Name x px) X.env
      standAt apos.atName
      let (f, first) ← holding [ov] (getMethod ov m pl)
      callWith pos f first (backTo pos (starEach [] X.env)) (backToKw pos (keywordEach [] X.env))) := by rfl) :
    ZE X T H0 EX (.Call (.Attribute (.Name x px) m apos) [] [] pos) (zMeth i C 0 F fsNil) :=
  PE.weak (methR0 (pe_var hN hv hd hcd) c hm Fn hr hx ht) fun σ H Q ⟨ρ, r, er, hf, k⟩ => by
    unfold zMeth at hf
    split at hf
    · rename_i o c' ds hi
      split at hf
      · rename_i hC
        subst hC
        obtain ⟨args, h1, h2⟩ := Option.bind_eq_some_iff.mp hf
        cases h1
        obtain ⟨v, hv, a, dx, us, rfl, ho, hc, hl3, hb, hr⟩ := er.slot i _ hi
        exact ⟨_, hv, a, dx, _, rfl, hb, noLook hno, mo_call (n := 0) er (Same.refl _) hi hv rfl .nil h2 k⟩
      · cases hf
    · cases hf
theorem rd_call {F : List D → List D → Option Ro} {H H1 : Hp} {Q : VK} {x d : D} {v : V} {args : List D} {vs : List V} (s1 : Same H H1) (rx : RepW X.K H x v) (ra : RepL X.K H1 args vs) (h : gRead C n F x args = some d)
    (k : ∀ v H', Same H H' → RepF X.K H' d v → Q v H') : ∃ a dx fs, v = .ref a ∧ H a = some (.ins C dx fs) ∧ (∀ m, m ∉ FN → fs.lookup m = none) ∧ spR X.K C n F (v :: vs) H1 Q EX := by
  unfold gRead at h
  split at h
  · rename_i o c ds
    split at h
    · rename_i hC
      obtain ⟨rfl, hl⟩ := hC
      obtain ⟨r, hF, h2⟩ := Option.bind_eq_some_iff.mp h
      obtain ⟨a, dx, us, rfl, ho, hc, hl3, hb, hr⟩ := repW_obj rx
      refine ⟨a, dx, _, rfl, hb, fun m hm => noLook hm, a, vs, ds, args, r, rfl, hl, ⟨dx, us, hl3, s1 _ _ hb, hr.ext (Ext.of s1)⟩, ra, hF, ?_⟩
      cases r with
      | inl d' => cases h2; exact fun v H' s' r' => k v H' (s1.trans s') r'
      | inr D => cases h2
    · cases h
  · cases h
/-- e.m(..), a reader -/
theorem fe_read {F : List D → List D → Option Ro} {o : Expr} {pl : Sem Bool} (ho : WE X o f) (c : Cls X.K C) (hm : Meth X.K C m g) (Fn : FnR X.prog X.w X.K X.mg X.base CX k g (spR X.K C n F)) (hr : Room k X.A) (hx : Passes CX X EX) (ha : AE X (e :: es) fs) (hno : m ∉ FN := by decide)
    (hst : starEach (e :: es) X.env = (false, eval e X.env) :: starEach es X.env := by rfl) (hpl : (backTo pos (starEach es X.env)).any (·.1) = false := by rfl)
    (ht : eval (.Call (.Attribute o m apos) (e :: es) [] pos) X.env = (do
      let ov ← eval o X.env
      standAt apos.atName
      let (f, first) ← holding [ov] (getMethod ov m pl)
      callWith pos f first (backTo pos (starEach (e :: es) X.env)) (backToKw pos (keywordEach [] X.env))) := by rfl) :
    FE X (.Call (.Attribute o m apos) (e :: es) [] pos) (fRead C n F f fs) :=
  PE.weak (pe_methR ho c hm Fn hr hx ha hst hpl ht) fun σ H Q ⟨ρ, d, er, hf, k⟩ => by
    obtain ⟨x, h1, h2⟩ := Option.bind_eq_some_iff.mp hf
    obtain ⟨args, h3, h4⟩ := Option.bind_eq_some_iff.mp h2
    refine ⟨ρ, x, er, h1, fun v H1 s1 r1 => ?_⟩
    have h4' := h4
    unfold gRead at h4'
    split at h4'
    · rename_i o c' ds
      split at h4'
      · rename_i hC
        obtain ⟨rfl, hl⟩ := hC
        obtain ⟨a, dx, us, rfl, _, hc, hl3, hb, hr⟩ := repW_obj r1
        refine ⟨a, dx, _, rfl, hb, noLook hno, ρ, args, er.same s1, h3, fun vs H2 s2 r2 => ?_⟩
        obtain ⟨_, _, _, _, _, _, hsp⟩ := rd_call (EX := EX) (Q := Q) s2 r1 r2 h4 (fun v H' s' r' => k v H' (s1.trans s') r')
        exact hsp
      · cases h4'
    · cases h4'
theorem fe_read0 {F : List D → List D → Option Ro} {o : Expr} {pl : Sem Bool} (ho : WE X o f) (c : Cls X.K C) (hm : Meth X.K C m g) (Fn : FnR X.prog X.w X.K X.mg X.base CX k g (spR X.K C 0 F)) (hr : Room k X.A) (hx : Passes CX X EX) (hno : m ∉ FN := by decide)
    (ht : eval (.Call (.Attribute o m apos) [] [] pos) X.env = (do
      let ov ← eval o X.env
      standAt apos.atName
      let (f, first) ← holding [ov] (getMethod ov m pl)
      callWith pos f first (backTo pos (starEach [] X.env)) (backToKw pos (keywordEach [] X.env))) := by rfl) :
    FE X (.Call (.Attribute o m apos) [] [] pos) (fRead C 0 F f fsNil) :=
  PE.weak (methR0 ho c hm Fn hr hx ht) fun σ H Q ⟨ρ, d, er, hf, k⟩ => by
    obtain ⟨x, h1, h2⟩ := Option.bind_eq_some_iff.mp hf
    obtain ⟨args, h3, h4⟩ := Option.bind_eq_some_iff.mp h2
    cases h3
    refine ⟨ρ, x, er, h1, fun v H1 s1 r1 => ?_⟩
    obtain ⟨a, dx, us, rfl, hb, hl, hsp⟩ := rd_call (EX := EX) (Q := Q) (Same.refl _) r1 .nil h4 (fun v H' s' r' => k v H' (s1.trans s') r')
    exact ⟨a, dx, us, rfl, hb, hl m hno, hsp⟩
/-- e.f, a property -/
theorem fe_prop {F : List D → List D → Option Ro} {o : Expr} {p gt : Addr} {fd : FuncData} {ps : List Str} {nm : Str} (ho : WE X o f) (c : Cls X.K C) (hp : PropOf X.K C nm p gt) (Fn : FnOk X.prog X.w X.K X.mg X.base CX k gt fd ps (spR X.K C 0 F)) (hr : Room (k + 1) X.A) (hb : Binds X.K fd ps []) (hx : Passes CX X.nox EX)
    (hab : attributeBase o nm X.env (eval o X.env) = eval o X.env := by rfl) : FE X (.Attribute o nm pos) (fRead C 0 F f fsNil) :=
  PE.weak (pe_prop ho c hp Fn hr hb .nil hx hab) fun σ H Q ⟨ρ, d, er, hf, k⟩ => by
    obtain ⟨x, h1, h2⟩ := Option.bind_eq_some_iff.mp hf
    obtain ⟨args, h3, h4⟩ := Option.bind_eq_some_iff.mp h2
    cases h3
    refine ⟨ρ, x, er, h1, fun v H1 s1 r1 => ?_⟩
    obtain ⟨a, dx, us, rfl, hb, hl, hsp⟩ := rd_call (EX := EX) (Q := Q) (Same.refl _) r1 .nil h4 (fun v H' s' r' => k v H' (s1.trans s') r')
    exact ⟨a, dx, us, rfl, hb, hsp⟩
end
end PL
/-! ### part PO8 -/
namespace PL
open PySem PySem.Spec PyProof.Rows L2 SupX

/-! ### objects made -/
def KwR (K : PySem.W.Frag) (H : Hp) : Option D → Option V → Prop
  | none, none => True
  | some d, some v => RepF K H d v
  | _, _ => False
/-- what __init__(self, *items, kw=..) promises -/
def spI (K : PySem.W.Frag) (C : Addr) (F : List D → Option D → Option Mo) : List V → Option V → Hp → VK → XK → Prop := fun vs kv H Q E => ∃ a rest args kd r, vs = .ref a :: rest ∧ small args.length = true ∧ ObAt K H a C [] ∧ RepL K H args rest ∧ KwR K H kd kv ∧ F args kd = some r ∧ MoK K a C H Q E r
theorem ObAt.mono {K : PySem.W.Frag} {H H' : Hp} {a C : Addr} {ds : List D} (h : ObAt K H a C ds) (s : Same H H') : ObAt K H' a C ds := by
  obtain ⟨dx, vs, h1, h2, h3⟩ := h
  exact ⟨dx, vs, h1, s _ _ h2, h3.ext (Ext.of s)⟩
theorem MoK.mono {K : PySem.W.Frag} {a C : Addr} {H H1 : Hp} {Q : VK} {E : XK} {r : Mo} (h : MoK K a C H Q E r) (s : Same H H1) : MoK K a C H1 Q E r := by
  cases r with
  | ok d ds => exact fun v H' sx => h v H' fun b o n e => sx b o n (s b o e)
  | ex D ds => exact fun H' sx => h H' fun b o n e => sx b o n (s b o e)
section
variable {CX : CXT} {P : Program} {w : World} {K : PySem.W.Frag} {mg : Str → Option Value} {base : Heap} {k : Nat} {f : Addr} {name qual : Str} {params : Arguments} {body : List Stmt} {scope : Scope} {dV kV doc pm cdv ct oc : Value} {an od : Option Addr}
  {osl : Array (Option Value)} {N ps : List Str} {C : Addr}
theorem init_args {F : List D → Option D → Option Mo} {dd : D} {dv : V} (hdd : ∀ H, RepF K H dd dv) {H : Hp} {vs : List V} {kv : Option V} {Q : VK} {E : XK} (h : spI K C F vs kv H Q E) : ∃ x rest, vs = x :: rest ∧ rest.length ≤ sizeLine ∧ ∀ p, H p = none →
    ∃ a args kd r, x = .ref a ∧ ObAt K (upd H p (.tup rest)) a C [] ∧ RepL K (upd H p (.tup rest)) [kd.getD dd, .tup args] [kv.getD dv, .ref p] ∧ F args kd = some r ∧ MoK K a C (upd H p (.tup rest)) Q E r := by
  obtain ⟨a, rest, args, kd, r, rfl, hs, o, ra, rk, hF, mk⟩ := h
  refine ⟨_, rest, rfl, by rw [ra.length]; exact small_le hs, fun p hp => ⟨a, args, kd, r, rfl, o.mono (same_new hp), ?_, hF, mk.mono (same_new hp)⟩⟩
  have s := same_new (o := .tup rest) hp
  have rt : RepF K (upd H p (.tup rest)) (.tup args) (.ref p) := repF_tup (.of upd_same) (ra.ext (Ext.of s))
  cases kd with
  | none =>
    cases kv with
    | none => exact RepL.cons (hdd _) (RepL.one rt)
    | some v => exact rk.elim
  | some d =>
    cases kv with
    | none => exact rk.elim
    | some v => exact RepL.cons (RepF.ext (Ext.of s) d v rk) (RepL.one rt)
/-- __init__ without super() -/
theorem fnk_init {p1 pk pv : Str} {D0 : Addr} {du : Value} {dv : V} {dd : D} {g : Addr → Rho → Option Fo} {F : List D → Option D → Option Mo} (lk : K.lookup f = some ⟨oc, od, .func (PySem.W.fnOf name qual params body scope dV kV doc pm an cdv ct), osl⟩) (hcd : PySem.W.codeIn K cdv qual = true)
    (S : FnScope N [p1, pk, pv] scope) (hN : 1 ≤ N.length) (hc : OkCls K C) (B : StarB (PySem.W.fnOf name qual params body scope dV kV doc pm an cdv ct) p1 pk pv D0) (hD : PySem.W.nsIn K D0 pk = some (some du)) (rd : RelV dv du) (hdd : ∀ H, RepF K H dd dv)
    (h : ∀ (a : Addr) (A : Around) (outer : List Env) (s : Shared) (H H0 : Hp) (E : XK), Room k (A.deeper (envOfC qual scope s.heap.objs.size f cdv)) → SOs (cxOf (L2N.CX P w) P w K mg base N qual scope f cdv A outer s H E) [] H0 E body (g a))
    (hF : ∀ a args kd r, F args kd = some r → ∃ fo, g a (rhoM N.length a C [] [kd.getD dd, .tup args]) = some fo ∧ MoOf a C fo r) : FnK P w K mg base (L2N.CX P w) (k + 1) f pk (spI K C F) := by
  have X := fnk_star (mg := mg) (base := base) (P := P) (w := w) (CX := L2N.CX P w) (k := k) (dv := dv) (sp := fun vs H Q E => ∃ x y p a args kd r, vs = [x, y, .ref p] ∧ x = .ref a ∧ ObAt K H a C [] ∧ RepL K H [kd.getD dd, .tup args] [y, .ref p] ∧ F args kd = some r ∧ MoK K a C H Q E r) lk hcd S cxUpN B hD rd
    (fun A outer s H vs Q E hr ⟨x, y, p, a, args, kd, r, e1, e2, o, ra, hFr, mk⟩ => by
      subst e1 e2
      obtain ⟨fo, h1, h2⟩ := hF a args kd r hFr
      exact ⟨_, h a A outer s H (minus H a) E hr, _, fo, RO.nil (ers_startM hc o ra hN), h1, mo_end h2 mk⟩)
  intro A outer s H us vs ku kv Q E hr e0 r rk hsp
  obtain ⟨x, rest, e, hz, hq⟩ := init_args hdd hsp
  refine X A outer s H us vs ku kv Q E hr e0 r rk ⟨x, rest, e, hz, fun p hp => ?_⟩
  obtain ⟨a, args, kd, r, e2, o, ra, hFr, mk⟩ := hq p hp
  exact ⟨x, _, p, a, args, kd, r, rfl, e2, o, ra, hFr, mk⟩
end
end PL
/-! ### part PO9 -/
namespace PL
open PySem PySem.Spec PyProof.Rows L2 SupX

/-! ### bodies that say super() -/
def AOs (X : Cx) (T : List (Addr × Str)) (H0 : Hp) (EX : XK) (body sts : List Stmt) (g : Rho → Option Fo) : Prop := ASs X body sts (tO X.K T H0 EX g)
def AO (X : Cx) (T : List (Addr × Str)) (H0 : Hp) (EX : XK) (body : List Stmt) (st : Stmt) (g : Rho → Option Fo) : Prop := AS1 X body st (tO X.K T H0 EX g)
section
variable {X : Cx} {T : List (Addr × Str)} {H0 : Hp} {EX : XK} {body sts : List Stmt} {st : Stmt} {g g1 g2 : Rho → Option Fo} {e : Expr} {pos : Pos}
theorem ao_of (h : SO X T H0 EX st g) : AO X T H0 EX body st g := as1_of h
theorem aos_of (h : SOs X T H0 EX sts g) : AOs X T H0 EX body sts g := as_of h
theorem aos_cons (h1 : AO X T H0 EX body st g1) (h2 : AOs X T H0 EX body sts g2) : AOs X T H0 EX body (st :: sts) (oSeq g1 g2) := (as_cons h1 h2).weak fun E σ H ⟨ρ, fl, er, hf, k⟩ => by
  obtain ⟨fl1, h3, h4⟩ := Option.bind_eq_some_iff.mp hf
  refine ⟨ρ, fl1, er, h3, ?_⟩
  cases fl1 with
  | nx ρ' => exact fun σ' H' e' er' => ⟨ρ', fl, er', h4, k.ext e'⟩
  | _ => cases h4; exact k
/-- super().m(e, ..), of the object in slot 0 -/
def zSup (C : Addr) (n : Nat) (F : List D → List D → Option Mo) (fs : Rho → Option (List D)) : Rho → Option Eo := zMeth 0 C n F fs
variable {CX : CXT} {k n : Nat} {C DD g0 : Addr} {m : Str} {p0 p1 apos : Pos} {es : List Expr} {fs : Rho → Option (List D)}
theorem RO.met {K : PySem.W.Frag} {H : Hp} {σ : L2.St} {ρ : Rho} (h : RO T K H0 H σ ρ) {q g x : Addr} (n : H q = none) : RO T K H0 (upd H q (.met g x)) σ ρ ∧ Same H (upd H q (.met g x)) := ⟨h.same (same_new n), same_new n⟩
theorem ae_sup_m {F : List D → List D → Option Mo} {pl : Sem Bool} (S : SupE X DD) (hsub : PySem.W.mroIn X.K C (.ref DD) = some true) (km : SupM X.K C DD m g0) (Fn : FnR X.prog X.w X.K X.mg X.base CX k g0 (spM X.K C n F)) (hr : Room k X.A) (hx : Passes CX X EX) (ha : AE X (e :: es) fs)
    (hst : starEach (e :: es) X.env = (false, eval e X.env) :: starEach es X.env := by rfl) (hpl : (backTo pos (starEach (e :: es) X.env)).any (·.1) = false := by rfl)
    (he : eval (.Call (.Attribute (.Call (.Name "super" p0) [] [] p1) m apos) (e :: es) [] pos) X.env = (do
      let ov ← attributeBase (.Call (.Name "super" p0) [] [] p1) m X.env (eval (.Call (.Name "super" p0) [] [] p1) X.env)
      standAt apos.atName
      let (f, first) ← holding [ov] (getMethod ov m pl)
      callWith pos f first (backTo pos (starEach (e :: es) X.env)) []) := by rfl) :
    AEx X body (.Call (.Attribute (.Call (.Name "super" p0) [] [] p1) m apos) (e :: es) [] pos) (tZ X.K T H0 EX (zSup C n F fs)) :=
  (ae_sup S hsub km Fn hr hx ha hst hpl he).weak fun σ H Q ⟨ρ, r, er, hf, k⟩ => by
    unfold zSup zMeth at hf
    split at hf
    · rename_i o c' ds hi
      split at hf
      · rename_i hC
        subst hC
        obtain ⟨args, h1, h2⟩ := Option.bind_eq_some_iff.mp hf
        split at h2
        · rename_i hl
          obtain ⟨v, hv, a, dx, us, rfl, ho, hc, hl3, hb, hr⟩ := er.slot 0 _ hi
          refine ⟨a, dx, _, hv, hb, fun q nq => ?_⟩
          obtain ⟨er1, s1⟩ := er.met (g := g0) (x := a) nq
          exact ⟨ρ, args, er1.toER, h1, fun vs H1 s2 r2 => ⟨s2 _ _ upd_same, mo_call er (s1.trans s2) hi hv hl r2 h2 k⟩⟩
        · cases h2
      · cases hf
    · cases hf
/-- super().__init__( *items, kw = size): slots i, j -/
def zSupI (C : Addr) (F : List D → Option D → Option Mo) (f fk : Rho → Option D) : Rho → Option Eo := fun ρ => match (ρ[(0 : Nat)]? : Option (Option D)) with
  | some (some (.obj o c [])) => if c = C then (f ρ).bind fun x => (fk ρ).bind fun y => match x with
    | .tup args => if small args.length = true then (F args (some y)).map fun r => match r with
      | .ok d es => .ok d (ρ.set 0 (some (.obj o c es)))
      | .ex D es => .ex D (ρ.set 0 (some (.obj o c es))) else none
    | _ => none else none
  | _ => none
theorem ae_sup_i {ke : Expr} {kw : Str} {p kp : Pos} {F : List D → Option D → Option Mo} {f fk : Rho → Option D} (S : SupE X DD) (hsub : PySem.W.mroIn X.K C (.ref DD) = some true) (km : SupM X.K C DD m g0) (Fn : FnK X.prog X.w X.K X.mg X.base CX k g0 kw (spI X.K C F)) (hr : Room k X.A) (hx : Passes CX X EX)
    (he : FE X e f) (hk : FE X ke fk) : AEx X body (.Call (.Attribute (.Call (.Name "super" p0) [] [] p1) m apos) [.Starred e p] [⟨some kw, ke, kp⟩] pos) (tZ X.K T H0 EX (zSupI C F f fk)) :=
  (ae_supK S hsub km Fn hr hx he hk).weak fun σ H Q ⟨ρ, r, er, hf, k⟩ => by
    unfold zSupI at hf
    split at hf
    · rename_i o c' hi
      split at hf
      · rename_i hC
        subst hC
        obtain ⟨x, h1, h2⟩ := Option.bind_eq_some_iff.mp hf
        obtain ⟨y, h3, h4⟩ := Option.bind_eq_some_iff.mp h2
        split at h4
        · rename_i args
          split at h4
          · rename_i hsm
            obtain ⟨mo, hF, h5⟩ := Option.map_eq_some_iff.mp h4
            obtain ⟨v, hv, a, dx, us, rfl, ho, hc, hl3, hb, hr⟩ := er.slot 0 _ hi
            refine ⟨a, dx, _, hv, hb, fun q nq => ?_⟩
            obtain ⟨er1, s1⟩ := er.met (g := g0) (x := a) nq
            refine ⟨ρ, _, er1.toER, h1, fun v1 H1 s2 r2 => ⟨ρ, y, (er1.same s2).toER, h3, fun v2 H2 s3 r3 => ?_⟩⟩
            obtain ⟨b, vs, rfl, hT, ra⟩ := repW_tup (RepW.of (r2.ext (Ext.of s3)))
            have s13 := (s1.trans s2).trans s3
            have ob : ObAt X.K H2 a c' [] := ⟨dx, us, hl3, s13 _ _ hb, hr.ext (Ext.of s13)⟩
            refine ⟨b, vs, rfl, hT, (s2.trans s3) _ _ upd_same, a, vs, args, some y, mo, rfl, hsm, ob, ra, r3, hF, ?_⟩
            have er3 := er.same s13
            cases mo with
            | ok d es =>
              cases h5
              intro v H' sx ⟨dx', us', l', h', r'⟩ rv
              obtain ⟨er4, ext⟩ := er3.oput hi hv sx h' l' r'
              exact k v H' ((Ext.of s13).trans ext) er4 rv
            | ex D es =>
              cases h5
              intro H' sx ⟨dx', us', l', h', r'⟩
              exact k H' ((Ext.of s13).trans (er3.oput hi hv sx h' l' r').2) (er3.oput hi hv sx h' l' r').1
          · cases h4
        · cases h4
      · cases hf
    · cases hf
theorem ao_expr {fa : Rho → Option Eo} (he : AEx X body e (tZ X.K T H0 EX fa)) (hs : swapsWith e none pos.line X.env = pure false := by rfl) : AO X T H0 EX body (.Expr e pos) (oDo fa) := by
  refine ⟨fun pins s σ H E I h => (as1_expr (pos := pos) he hs).run pins s σ H E I ?_⟩
  obtain ⟨ρ, fl, er, hf, k⟩ := h
  obtain ⟨r1, h1, rfl⟩ := Option.map_eq_some_iff.mp hf
  cases r1 with
  | ex C ρ1 => exact ⟨ρ, _, er, h1, fun H' _ r => k σ H' r⟩
  | ok d ρ1 => exact ⟨ρ, _, er, h1, fun v H' e1 er1 r1 => k σ H' e1 er1⟩
end
section
variable {CX : CXT} {P : Program} {w : World} {K : PySem.W.Frag} {mg : Str → Option Value} {base : Heap} {k n : Nat} {f cc C : Addr} {name qual : Str} {params : Arguments} {body : List Stmt} {scope : Scope} {dV kV doc pm cdv ct oc ccl : Value} {an od cod : Option Addr}
  {osl csl : Array (Option Value)} {N ps : List Str} {v0 : Option Value}
theorem bnd_pos {fd : FuncData} {A : Around} {outer : List Env} {s : Shared} {H : Hp} {E : XK} {us : List Value} {vs : List V} (hb : bindArgs fd ⟨us, []⟩ = pure (ps.zip us)) (r : Vals vs us) (hl : vs.length = ps.length) (e0 : Env0 P w K mg base A outer s H) :
    StX.Bnd CX P w K mg base fd ⟨us, []⟩ ps A outer s H E (fun xs H2 => xs = vs ∧ H2 = H) := by
  intro A' Ex Q h
  rw [hb]
  exact wpAny_pure (h s H vs us e0 (Un.kept fun b o e => e) rfl (fun _ _ z => z) r hl ⟨rfl, rfl⟩)
/-- a method that says super(), by positions -/
theorem fnr_sup {g : Addr → Rho → Option Fo} {F : List D → List D → Option Mo} (lk : K.lookup f = some ⟨oc, od, .func (PySem.W.fnX name qual params body scope [(("__class__" : Str), cc)] dV kV doc pm an cdv ct), osl⟩) (hcd : PySem.W.codeIn K cdv qual = true) (hcc : K.lookup cc = some ⟨ccl, cod, .cell v0, csl⟩)
    (S : SupS N ps scope) (hN : 1 ≤ N.length) (hn : ps.length = n + 1) (hc : OkCls K C) (hb : ∀ us : List Value, us.length = ps.length → bindArgs (PySem.W.fnX name qual params body scope [(("__class__" : Str), cc)] dV kV doc pm an cdv ct) ⟨us, []⟩ = pure (ps.zip us))
    (h : ∀ (a : Addr) (A : Around) (outer : List Env) (s : Shared) (H H0 : Hp) (E : XK), Room k (A.deeper (envS qual scope s.heap.objs.size f cdv cc)) → AOs (cxS (L2N.CX P w) P w K mg base N qual scope f cdv cc A outer s H E) [] H0 E body body (g a))
    (hF : ∀ a fds args r, args.length = n → F fds args = some r → ∃ fo, g a (rhoM N.length a C fds args) = some fo ∧ MoOf a C fo r) : FnR P w K mg base (L2N.CX P w) (k + 1) f (spM K C n F) := by
  intro A outer s H us vs Q E hr e0 r hsp
  obtain ⟨a, rest, fds, args, mo, rfl, hl, o, rr, hFr, mk⟩ := hsp
  have hlv : (V.ref a :: rest).length = ps.length := by rw [List.length_cons, rr.length, hl, hn]
  refine run_sup lk hcd hcc S hr e0 (bnd_pos (hb us (by rw [← r.length]; exact hlv)) r hlv e0) fun s2 H2 xs ⟨e1, e2⟩ hr' => ?_
  subst e1 e2
  obtain ⟨fo, h1, h2⟩ := hF a fds args mo hl hFr
  exact ⟨_, h a A outer s2 H2 (minus H2 a) E hr', _, fo, RO.nil (ers_startM hc o rr hN), h1, mo_end h2 mk⟩
/-- __init__(self, *items, kw = ..) that says super() -/
theorem fnk_init_sup {p1 pk pv : Str} {D0 : Addr} {du : Value} {dv : V} {dd : D} {g : Addr → Rho → Option Fo} {F : List D → Option D → Option Mo} (lk : K.lookup f = some ⟨oc, od, .func (PySem.W.fnX name qual params body scope [(("__class__" : Str), cc)] dV kV doc pm an cdv ct), osl⟩) (hcd : PySem.W.codeIn K cdv qual = true)
    (hcc : K.lookup cc = some ⟨ccl, cod, .cell v0, csl⟩) (S : SupS N [p1, pk, pv] scope) (hN : 1 ≤ N.length) (hc : OkCls K C) (B : StarB (PySem.W.fnX name qual params body scope [(("__class__" : Str), cc)] dV kV doc pm an cdv ct) p1 pk pv D0) (hD : PySem.W.nsIn K D0 pk = some (some du)) (rd : RelV dv du) (hdd : ∀ H, RepF K H dd dv)
    (h : ∀ (a : Addr) (A : Around) (outer : List Env) (s : Shared) (H H0 : Hp) (E : XK), Room k (A.deeper (envS qual scope s.heap.objs.size f cdv cc)) → AOs (cxS (L2N.CX P w) P w K mg base N qual scope f cdv cc A outer s H E) [] H0 E body body (g a))
    (hF : ∀ a args kd r, F args kd = some r → ∃ fo, g a (rhoM N.length a C [] [kd.getD dd, .tup args]) = some fo ∧ MoOf a C fo r) : FnK P w K mg base (L2N.CX P w) (k + 1) f pk (spI K C F) := by
  intro A outer s H us vs ku kv Q E hr e0 r rk hsp
  obtain ⟨x, rest, e, hz, hq⟩ := init_args hdd hsp
  subst e
  cases r with
  | cons rx r =>
    refine run_sup lk hcd hcc S hr e0 (bnd_star B hD rd cxUpN e0 rx r rk hz) fun s2 H2 xs ⟨p, hp, ex, eH⟩ hr' => ?_
    subst ex eH
    obtain ⟨a, args, kd, mo, e2, o, ra, hFr, mk⟩ := hq p hp
    subst e2
    obtain ⟨fo, h1, h2⟩ := hF a args kd mo hFr
    exact ⟨_, h a A outer s2 _ (minus _ a) E hr', _, fo, RO.nil (ers_startM hc o ra hN), h1, mo_end h2 mk⟩
/-- a method (self, place, *items) -/
structure StarP (fd : FuncData) (p1 p2 pv : Str) : Prop where
  b : ∀ (x y : Value) (rest : List Value), bindArgs fd ⟨x :: y :: rest, []⟩ = (newTuple rest >>= fun t => pure [(p1, x), (p2, y), (pv, t)])
theorem bnd_starP {fd : FuncData} {p1 p2 pv : Str} (B : StarP fd p1 p2 pv) (hCX : StX.CXUp CX) {A : Around} {outer : List Env} {s : Shared} {H : Hp} {E : XK} {ux uy : Value} {x y : V} {us : List Value} {vs : List V} (e0 : Env0 P w K mg base A outer s H) (rx : RelV x ux) (ry : RelV y uy) (r : Vals vs us) (hz : vs.length ≤ sizeLine) :
    StX.Bnd CX P w K mg base fd ⟨ux :: uy :: us, []⟩ [p1, p2, pv] A outer s H E (fun xs H2 => ∃ p, H p = none ∧ xs = [x, y, .ref p] ∧ H2 = upd H p (.tup vs)) := by
  intro A' Ex Q h
  have hn : H s.heap.objs.size = Option.none := e0.hok.fresh (Nat.le_refl _)
  have hz2 : us.length ≤ sizeLine := by rw [← r.length]; exact hz
  have new : ObjOk P w (upd H s.heap.objs.size (.tup vs)) (s.heap.push ({ cls := .type "tuple", data := .seq us.toArray } : Obj)) s.heap.objs.size (.tup vs) := ⟨hz, us, r, ⟨_, Heap.get?_push_size _ rfl, rfl, _, rfl⟩⟩
  have un := StX.un_laid (fs := frs outer) (s := s) (o := ({ cls := .type "tuple", data := .seq us.toArray } : Obj)) (u := .tup vs) hn
  rw [B.b]
  refine wpAny_bind (wpAny_newTuple (wpAny_pure ?_) hz2)
  exact h _ _ [x, y, .ref s.heap.objs.size] [ux, uy, .ref s.heap.objs.size] (StX.env0_laid e0 new) un rfl (fun e s' => hCX outer s H _ _ E e s' un (fun b o q => Heap.get?_push_of_some _ q) rfl) (.cons rx (.cons ry (.cons rfl .nil))) rfl ⟨_, hn, rfl, rfl⟩
/-- its promise: F attributes, place, items -/
def spMS (K : PySem.W.Frag) (C : Addr) (F : List D → D → List D → Option Mo) : Sp := fun vs H Q E => ∃ a v rest fds d args r, vs = .ref a :: v :: rest ∧ small args.length = true ∧ ObAt K H a C fds ∧ RepF K H d v ∧ RepL K H args rest ∧ F fds d args = some r ∧ MoK K a C H Q E r
theorem fnr_starP {p1 p2 pv : Str} {g : Addr → Rho → Option Fo} {F : List D → D → List D → Option Mo} (lk : K.lookup f = some ⟨oc, od, .func (PySem.W.fnOf name qual params body scope dV kV doc pm an cdv ct), osl⟩) (hcd : PySem.W.codeIn K cdv qual = true)
    (S : FnScope N [p1, p2, pv] scope) (hN : 1 ≤ N.length) (hc : OkCls K C) (B : StarP (PySem.W.fnOf name qual params body scope dV kV doc pm an cdv ct) p1 p2 pv)
    (h : ∀ (a : Addr) (A : Around) (outer : List Env) (s : Shared) (H H0 : Hp) (E : XK), Room k (A.deeper (envOfC qual scope s.heap.objs.size f cdv)) → SOs (cxOf (L2N.CX P w) P w K mg base N qual scope f cdv A outer s H E) [] H0 E body (g a))
    (hF : ∀ a fds d args r, F fds d args = some r → ∃ fo, g a (rhoM N.length a C fds [d, .tup args]) = some fo ∧ MoOf a C fo r) : FnR P w K mg base (L2N.CX P w) (k + 1) f (spMS K C F) := by
  intro A outer s H us vs Q E hr e0 r hsp
  obtain ⟨a, v, rest, fds, d, args, mo, rfl, hs, o, rv, ra, hFr, mk⟩ := hsp
  cases r with
  | cons rx r => cases r with
    | cons ry r =>
      refine StX.run_bnd lk hcd S hr e0 (bnd_starP B cxUpN e0 rx ry r (by rw [ra.length]; exact small_le hs)) fun s2 H2 xs ⟨p, hp, ex, eH⟩ hr' => ?_
      subst ex eH
      have s1 := same_new (o := .tup rest) hp
      have rt : RepF K (upd H p (.tup rest)) (.tup args) (.ref p) := repF_tup (.of upd_same) (ra.ext (Ext.of s1))
      obtain ⟨fo, h1, h2⟩ := hF a fds d args mo hFr
      exact ⟨_, h a A outer s2 _ (minus _ a) E hr', _, fo, RO.nil <| ers_startM hc (o.mono s1) (RepL.cons (RepF.ext (Ext.of s1) _ _ rv) (RepL.one rt)) hN, h1, mo_end h2 (mk.mono s1)⟩
end
end PL
/-! ### part PO10 -/
namespace PL
open PySem PySem.Spec PyProof.Rows L2 SupX

/-! ### C(..) -/
inductive Em where
  | ok (c : Addr) (ds : List D) | ex (C : Addr)
def EmK (K : PySem.W.Frag) (EX : XK) (H : Hp) (Q : VK) : Em → Prop
  | .ok c ds => ∀ a H', Same H H' → H a = none → RepO K H' none c ds (.ref a) → Q (.ref a) H'
  | .ex C => ∀ H', Same H H' → EX (.ref C) none H'
/-- an expression that makes an object -/
def tMk (K : PySem.W.Frag) (EX : XK) (f : Rho → Option Em) : TE := fun σ H Q => ∃ ρ r, ER K H σ ρ ∧ f ρ = some r ∧ EmK K EX H Q r
def ZM (X : Cx) (EX : XK) (e : Expr) (f : Rho → Option Em) : Prop := PE X e (tMk X.K EX f)
def moEm (C : Addr) : Mo → Option Em
  | .ok .non es => some (.ok C es)
  | .ok _ _ => none
  | .ex D _ => some (.ex D)
def mMake (C : Addr) (F : List D → Option D → Option Mo) (fs : Rho → Option (List D)) : Rho → Option Em := fun ρ => (fs ρ).bind fun args => if small args.length = true then (F args none).bind (moEm C) else none
def mMakeK (C : Addr) (F : List D → Option D → Option Mo) (fs : Rho → Option (List D)) (fk : Rho → Option D) : Rho → Option Em := fun ρ => (fs ρ).bind fun args => (fk ρ).bind fun y => if small args.length = true then (F args (some y)).bind (moEm C) else none
def mIf (c : Rho → Option Bool) (f1 f2 : Rho → Option Em) : Rho → Option Em := fun ρ => (c ρ).bind fun k => if k = true then f1 ρ else f2 ρ
def oSetM (i : Nat) (f : Rho → Option Em) : Rho → Option Fo := fun ρ => (f ρ).map fun r => match r with
  | .ok c ds => .nx (ρ.set i (some (.obj none c ds)))
  | .ex C => .ex C ρ
theorem EmK.mono {K : PySem.W.Frag} {EX : XK} {H H1 : Hp} {Q : VK} {r : Em} (h : EmK K EX H Q r) (s : Same H H1) : EmK K EX H1 Q r := by
  cases r with
  | ok c ds => exact fun a H' s' n => h a H' (s.trans s') (s.free n)
  | ex C => exact fun H' s' => h H' (s.trans s')
section
variable {X : Cx} {CX : CXT} {T : List (Addr × Str)} {H0 : Hp} {EX : XK} {k : Nat} {C f : Addr} {x kw : Str} {e : Expr} {es : List Expr} {fs : Rho → Option (List D)} {fk : Rho → Option D} {p pos kp : Pos} {F : List D → Option D → Option Mo}
theorem run_makeO {sp : List V → Option V → Hp → VK → XK → Prop} {pins : List (Addr × Obj)} {σ : L2.St} {H : Hp} {s : Shared} {Q : VK} {us : List Value} {vs : List V} {ku : Option Value} {kv : Option V} {E : XK} (M : Mk X.K C f) (Fn : FnK X.prog X.w X.K X.mg X.base CX k f kw sp) (hr : Room (k + 1) X.A) (hx : Passes CX X E)
    (I : Inv X pins σ H s) (r : Vals vs us) (rk : OptRel kv ku)
    (h : ∀ x dx, H x = none → H dx = none → dx ≠ x → sp (.ref x :: vs) kv (upd (upd H dx (.own x)) x (.ins C dx [])) (fun v H2 => v = .non ∧ Q (.ref x) H2) E) :
    wpAny (model X.prog X.w) X.A (call (.ref C) us (kwOf kw ku)) (EP X pins σ Q) X.xe s := by
  have hq := h (s.heap.objs.size + 1) s.heap.objs.size (I.hok.fresh (Nat.le_succ _)) (I.hok.fresh (Nat.le_refl _)) (Nat.ne_of_lt (Nat.lt_succ_self _))
  have I2 := Inv.made (C := C) I
  refine wpAny_call (make_map (f := f) I.kIn M.makes M.init (beq_iff_eq.mp M.fn) (codeAny_mono (Fn _ X.stack _ _ (Value.ref (s.heap.objs.size + 1) :: us) (V.ref (s.heap.objs.size + 1) :: vs) ku kv _ E (hr.make C us (kwOf kw ku)) (I2.env0.make C us (kwOf kw ku)) (.cons rfl r) rk hq) fun r s' hq' => ?_))
  cases r with
  | error e => exact hx pins σ _ _ e s' I2 hq'
  | ok fl =>
    cases fl with
    | ret u =>
      obtain ⟨v, H', I3, rv, ev, q3⟩ := I2.after hq'
      subst ev
      exact ⟨rv, ⟨V.ref (s.heap.objs.size + 1), H', I3, rfl, q3⟩⟩
    | next => exact False.elim hq'
    | brk => exact False.elim hq'
    | cont => exact False.elim hq'
def tMakeO (C : Addr) (sp : List V → Option V → Hp → VK → XK → Prop) (E : XK) (t : TA) (tk : Option TE) : TE := fun σ H Q => t σ H fun vs H1 => (match tk with
  | none => fun q => q none H1
  | some te => fun q => te σ H1 fun z H2 => q (some z) H2 : (Option V → Hp → Prop) → Prop) fun kv H2 => ∀ x dx, H2 x = none → H2 dx = none → dx ≠ x → sp (.ref x :: vs) kv (upd (upd H2 dx (.own x)) x (.ins C dx [])) (fun v H3 => v = .non ∧ Q (.ref x) H3) E
theorem pe_mkO {sp : List V → Option V → Hp → VK → XK → Prop} {E : XK} {t : TA} (M : Mk X.K C f) (Fn : FnK X.prog X.w X.K X.mg X.base CX k f kw sp) (hr : Room (k + 1) X.A) (hx : Passes CX X E) (hg : Gl X x) (hm : X.mg x = some (.ref C)) (ha : PA X (e :: es) t) (hdb : (x == ("__debug__" : Str)) = false := by decide)
    (he : starEach (e :: es) X.env = (false, eval e X.env) :: starEach es X.env := by rfl) (hpl : (backTo pos (starEach es X.env)).any (·.1) = false := by rfl) : PE X (.Call (.Name x p) (e :: es) [] pos) (tMakeO C sp E t none) := by
  refine ⟨fun pins s σ H Q I h => ?_⟩
  refine wpAny_Call_Name_kw (ld_glob I hg hm ?_ hdb)
  refine PySem.W.callWith_K (h₀ := X.base) I.ok.mod.kin M.kp (thn (ha.run pos pins s σ H _ I h) fun us s1 ⟨vs, H1, I1, r, q⟩ => ⟨I1.kIn, ?_⟩) he hpl
  exact run_makeO (ku := none) (kv := none) M Fn hr hx I1 r trivial q
theorem pe_mkOK {sp : List V → Option V → Hp → VK → XK → Prop} {E : XK} {t : TA} {ke : Expr} {tk : TE} (M : Mk X.K C f) (Fn : FnK X.prog X.w X.K X.mg X.base CX k f kw sp) (hr : Room (k + 1) X.A) (hx : Passes CX X E) (hg : Gl X x) (hm : X.mg x = some (.ref C)) (ha : PA X (e :: es) t) (hk : PE X ke tk) (hdb : (x == ("__debug__" : Str)) = false := by decide)
    (he : starEach (e :: es) X.env = (false, eval e X.env) :: starEach es X.env := by rfl)
    (hpl : ((backTo pos (starEach (e :: es) X.env)).any (·.1) || (backToKw pos (keywordEach [⟨some kw, ke, kp⟩] X.env)).any (·.1.isNone)) = false := by rfl) : PE X (.Call (.Name x p) (e :: es) [⟨some kw, ke, kp⟩] pos) (tMakeO C sp E t (some tk)) := by
  refine ⟨fun pins s σ H Q I h => ?_⟩
  refine wpAny_Call_Name_kw (ld_glob I hg hm ?_ hdb)
  have hall : (backToKw pos (keywordEach [⟨some kw, ke, kp⟩] X.env)).all (·.1.isSome) = true := rfl
  refine PySem.W.callWith_KW (h₀ := X.base) I.ok.mod.kin M.kp hall (thn (ha.run pos pins s σ H _ I h) fun us s1 ⟨vs, H1, I1, r, q⟩ => ?_) hpl he
  have hkw : PK X [⟨some kw, ke, kp⟩] (L2.tCons tk L2.tNil) := pk_cons hk pk_nil
  refine thn (hkw.run pos pins s1 σ H1 (fun zs H2 => match zs with
    | [z] => ∀ x dx, H2 x = none → H2 dx = none → dx ≠ x → sp (.ref x :: vs) (some z) (upd (upd H2 dx (.own x)) x (.ins C dx [])) (fun v H3 => v = .non ∧ Q (.ref x) H3) E
    | _ => False) I1 q) fun ws s2 ⟨zs, H2, I2, rz, q2⟩ => ⟨I2.kIn, ?_⟩
  cases rz with
  | nil => exact q2.elim
  | cons rz rn =>
    cases rn with
    | nil => exact run_makeO (ku := some _) (kv := some _) M Fn hr hx I2 r rz q2
    | cons a b => exact q2.elim
theorem em_call {H H2 : Hp} {Q : VK} {args : List D} {vs : List V} {kd : Option D} {kv : Option V} {r : Em} (hc : OkCls X.K C) (s2 : Same H H2) (hs : small args.length = true) (ra : RepL X.K H2 args vs) (rk : KwR X.K H2 kd kv) (h : (F args kd).bind (moEm C) = some r) (k : EmK X.K EX H Q r)
    {x dx : Addr} (nx : H2 x = none) (nd : H2 dx = none) (ne : dx ≠ x) : spI X.K C F (.ref x :: vs) kv (upd (upd H2 dx (.own x)) x (.ins C dx [])) (fun v H3 => v = .non ∧ Q (.ref x) H3) EX := by
  obtain ⟨mo, hF, h2⟩ := Option.bind_eq_some_iff.mp h
  have s3 : Same H2 (upd (upd H2 dx (.own x)) x (.ins C dx [])) := fun b o e => by
    rw [upd_ne (ne_of_none e nx), upd_ne (ne_of_none e nd)]; exact e
  have nxH : H x = none := s2.free nx
  refine ⟨x, vs, args, kd, mo, rfl, hs, ⟨dx, [], by simp, upd_same, .nil⟩, ra.ext (Ext.of s3), ?_, hF, ?_⟩
  · cases kd <;> cases kv <;> first | exact rk | exact RepF.ext (Ext.of s3) _ _ rk
  · have sm : ∀ H', SameX x (upd (upd H2 dx (.own x)) x (.ins C dx [])) H' → Same H H' := fun H' sx b o e => by
      have : b ≠ x := ne_of_none e nxH
      exact sx b o this (s3 b o (s2 b o e))
    cases mo with
    | ok d es =>
      intro v H' sx ⟨dx', vs', l', h', r'⟩ rv
      cases d <;> simp only [moEm, reduceCtorEq] at h2
      cases h2
      refine ⟨by simpa only [RepF] using rv, k x H' (sm H' sx) nxH ⟨x, dx', vs', rfl, fun b z => (by cases z), hc, l', h', r'⟩⟩
    | ex D es =>
      simp only [moEm] at h2
      cases h2
      intro H' sx _
      exact k H' (sm H' sx)
theorem zm_make (hc : OkCls X.K C) (M : Mk X.K C f) (Fn : FnK X.prog X.w X.K X.mg X.base CX k f kw (spI X.K C F)) (hr : Room (k + 1) X.A) (hx : Passes CX X EX) (hg : Gl X x) (hm : X.mg x = some (.ref C)) (ha : AE X (e :: es) fs) (hdb : (x == ("__debug__" : Str)) = false := by decide)
    (he : starEach (e :: es) X.env = (false, eval e X.env) :: starEach es X.env := by rfl) (hpl : (backTo pos (starEach es X.env)).any (·.1) = false := by rfl) : ZM X EX (.Call (.Name x p) (e :: es) [] pos) (mMake C F fs) :=
  PE.weak (pe_mkO M Fn hr hx hg hm ha hdb he hpl) fun σ H Q ⟨ρ, r, er, hf, kk⟩ => by
    obtain ⟨args, h1, h2⟩ := Option.bind_eq_some_iff.mp hf
    split at h2
    · rename_i hs
      exact ⟨ρ, args, er, h1, fun vs H1 s1 r1 => fun x dx nx nd ne => em_call (kd := none) (kv := none) hc s1 hs r1 trivial h2 kk nx nd ne⟩
    · cases h2
theorem zm_makeK {ke : Expr} (hc : OkCls X.K C) (M : Mk X.K C f) (Fn : FnK X.prog X.w X.K X.mg X.base CX k f kw (spI X.K C F)) (hr : Room (k + 1) X.A) (hx : Passes CX X EX) (hg : Gl X x) (hm : X.mg x = some (.ref C)) (ha : AE X (e :: es) fs) (hk : FE X ke fk) (hdb : (x == ("__debug__" : Str)) = false := by decide)
    (he : starEach (e :: es) X.env = (false, eval e X.env) :: starEach es X.env := by rfl)
    (hpl : ((backTo pos (starEach (e :: es) X.env)).any (·.1) || (backToKw pos (keywordEach [⟨some kw, ke, kp⟩] X.env)).any (·.1.isNone)) = false := by rfl) : ZM X EX (.Call (.Name x p) (e :: es) [⟨some kw, ke, kp⟩] pos) (mMakeK C F fs fk) :=
  PE.weak (pe_mkOK M Fn hr hx hg hm ha hk hdb he hpl) fun σ H Q ⟨ρ, r, er, hf, kk⟩ => by
    obtain ⟨args, h1, h2⟩ := Option.bind_eq_some_iff.mp hf
    obtain ⟨y, h3, h4⟩ := Option.bind_eq_some_iff.mp h2
    split at h4
    · rename_i hs
      exact ⟨ρ, args, er, h1, fun vs H1 s1 r1 => ⟨ρ, y, er.same s1, h3, fun z H2 s2 r2 => fun x dx nx nd ne => em_call (kd := some y) (kv := some z) hc (s1.trans s2) hs (r1.ext (Ext.of s2)) r2 h4 kk nx nd ne⟩⟩
    · cases h4
theorem zm_if {c a b : Expr} {fc : Rho → Option Bool} {f1 f2 : Rho → Option Em} (hc : BE X c fc) (ha : ZM X EX a f1) (hb : ZM X EX b f2) : ZM X EX (.IfExp c a b pos) (mIf fc f1 f2) :=
  PE.weak (pe_ifExp hc ha hb) fun σ H Q ⟨ρ, r, er, hf, kk⟩ => by
    obtain ⟨b, h1, h2⟩ := Option.bind_eq_some_iff.mp hf
    refine ⟨ρ, b, er, h1, fun H1 s1 => ?_⟩
    cases b with
    | true => exact ⟨ρ, r, er.same s1, by simpa using h2, kk.mono s1⟩
    | false => exact ⟨ρ, r, er.same s1, by simpa using h2, kk.mono s1⟩
theorem so_setM {y : Str} {pos' : Pos} {fm : Rho → Option Em} (i : Nat) (hN : X.N.Nodup) (hi : X.N[i]? = some y) (hx : Loc X.env.scope y) (he : ZM X EX e fm) (hf : X.fn y = true ∨ X.env.scope.names.lookup y = some .local)
    (hs : swapsWith e (some (.Name y pos')) pos.line X.env = pure false := by rfl) : SO X T H0 EX (.Assign [.Name y pos'] e pos) (oSetM i fm) :=
  PS.weak (ps_set hN hi hx he hs hf) fun E σ H ⟨ρ, fl, er, hf, kk⟩ => by
    obtain ⟨r1, h1, rfl⟩ := Option.map_eq_some_iff.mp hf
    cases r1 with
    | ex C => exact ⟨ρ, _, er.toER, h1, fun H' s' => kk σ H' (er.same s')⟩
    | ok c ds => exact ⟨ρ, _, er.toER, h1, fun a H' s' n ro => kk _ H' (Ext.of s') (er.oset s' n ro)⟩
/-- x.m(place, ..), m of the kind (self, place, *items) -/
def zMethS (i : Nat) (C : Addr) (F : List D → D → List D → Option Mo) (fs : Rho → Option (List D)) : Rho → Option Eo := fun ρ => match ρ[i]? with
  | some (some (.obj o c ds)) => if c = C then (fs ρ).bind fun args => match args with
    | d :: xs => if small xs.length = true then (F ds d xs).map fun r => match r with
      | .ok d es => .ok d (ρ.set i (some (.obj o c es)))
      | .ex D es => .ex D (ρ.set i (some (.obj o c es))) else none
    | [] => none else none
  | _ => none
theorem ze_methS {F : List D → D → List D → Option Mo} {m : Str} {g : Addr} {px apos : Pos} {pl : Sem Bool} (i : Nat) (hN : X.N[i]? = some x) (hv : Vis X.env.scope x) (c : Cls X.K C) (hm : Meth X.K C m g) (Fn : FnR X.prog X.w X.K X.mg X.base CX k g (spMS X.K C F)) (hr : Room k X.A) (hx : Passes CX X EX) (ha : AE X (e :: es) fs)
    (hno : m ∉ FN := by decide) (hd : (x == ("__debug__" : Str)) = false := by decide) (hcd : (x == ("__classdict__" : Str)) = false := by decide)
    (hst : starEach (e :: es) X.env = (false, eval e X.env) :: starEach es X.env := by rfl) (hpl : (backTo pos (starEach es X.env)).any (·.1) = false := by rfl)
    (ht : eval (.Call (.Attribute (.Name x px) m apos) (e :: es) [] pos) X.env = (do
      let ov ← eval (.Name x px) X.env
      standAt apos.atName
      let (f, first) ← holding [ov] (getMethod ov m pl)
      callWith pos f first (backTo pos (starEach (e :: es) X.env)) (backToKw pos (keywordEach [] X.env))) := by rfl) :
    ZE X T H0 EX (.Call (.Attribute (.Name x px) m apos) (e :: es) [] pos) (zMethS i C F fs) :=
  PE.weak (pe_methR (pe_var hN hv hd hcd) c hm Fn hr hx ha hst hpl ht) fun σ H Q ⟨ρ, r, er, hf, kk⟩ => by
    unfold zMethS at hf
    split at hf
    · rename_i o c' ds hi
      split at hf
      · rename_i hC
        subst hC
        obtain ⟨args, h1, h2⟩ := Option.bind_eq_some_iff.mp hf
        split at h2
        · rename_i d xs
          split at h2
          · rename_i hs
            obtain ⟨v, hv, a, dx, us, rfl, ho, hc, hl3, hb, hr⟩ := er.slot i _ hi
            refine ⟨_, hv, a, dx, _, rfl, hb, noLook hno, ρ, _, er.toER, h1, fun vs H1 s1 r1 => ?_⟩
            obtain ⟨mo, hF, h5⟩ := Option.map_eq_some_iff.mp h2
            simp only [RepL] at r1
            obtain ⟨v1, rest, rfl, rv1, rr⟩ := r1
            have er1 := er.same s1
            refine ⟨a, v1, rest, ds, d, xs, mo, rfl, hs, ⟨dx, us, hl3, s1 _ _ hb, hr.ext (Ext.of s1)⟩, rv1, rr, hF, ?_⟩
            cases mo with
            | ok d es =>
              cases h5
              intro v H' sx ⟨dx', us', l', h', r'⟩ rv
              obtain ⟨er4, ext⟩ := er1.oput hi hv sx h' l' r'
              exact kk v H' ((Ext.of s1).trans ext) er4 rv
            | ex D es =>
              cases h5
              intro H' sx ⟨dx', us', l', h', r'⟩
              exact kk H' ((Ext.of s1).trans (er1.oput hi hv sx h' l' r').2) (er1.oput hi hv sx h' l' r').1
          · cases h2
        · cases h2
      · cases hf
    · cases hf
/-- loops -/
def ofGo (t : Tgt) (b : Rho → Option Fo) : List D → Rho → Option Fo
  | [], ρ => some (.nx ρ)
  | d :: r, ρ => (t d ρ).bind fun ρ1 => (b ρ1).bind fun fl => match fl with
    | .nx ρ2 => ofGo t b r ρ2
    | .ct ρ2 => ofGo t b r ρ2
    | .bk ρ2 => some (.nx ρ2)
    | .rt d => some (.rt d)
    | .ro ρ d => some (.ro ρ d)
    | .ex C ρ => some (.ex C ρ)
def oFor (src : Rho → Option (List D)) (t : Tgt) (b : Rho → Option Fo) : Rho → Option Fo := fun ρ => (src ρ).bind fun l => ofGo t b l ρ
theorem so_for {tg iter : Expr} {body : List Stmt} {g : Rho → Option Fo} {src : Rho → Option (List D)} {is : List Nat} {t : Tgt} (hp : PassesOwn (model X.prog X.w) X.A X.env X.xe) (hc : X.calm = true) (hi : IE X tg iter true src) (hg : GE X tg is t) (hb : SOs X T H0 EX body g)
    (hs : ∀ x, foldedSetIterable iter X.env x = pure x := by intro _; rfl) : SO X T H0 EX (.For tg iter body [] pos) (oFor src t g) := PS.weak (ps_for hp hc hi hg hb hs) fun E σ H ⟨ρ, fl, er, hf, k⟩ => by
  obtain ⟨l, h1, h2⟩ := Option.bind_eq_some_iff.mp hf
  refine ⟨ρ, l, er.toER, h1, fun J H1 S s1 w hS hE => ?_⟩
  have noS := hE rfl
  refine ⟨fun i m σ2 H2 => m = l.length - i ∧ i ≤ l.length ∧ ∃ ρ2, RO T X.K H0 H2 σ2 ρ2 ∧ Ext H1 H2 ∧ ofGo t g (l.drop i) ρ2 = some fl, ⟨l.length, by simp, Nat.zero_le _, ρ, er.same s1, Ext.refl _, by simpa using h2⟩, ?_⟩
  rintro i m σ2 H2 ⟨rfl, hi, ρ2, er2, ext, hgo⟩
  by_cases hlt : i < l.length
  · refine .inr ⟨w.go i H2 hlt ext (fun a ha => (noS a ha).elim), _, fun σ' H' n => ⟨l.length - (i + 1), by omega, rfl, hlt, n⟩, fun x H3 y => ?_⟩
    have hd : l[i]? = some l[i] := List.getElem?_eq_getElem hlt
    obtain ⟨s3, r3⟩ := w.yld i H2 x H3 l[i] hd ext (fun a ha => (noS a ha).elim) y
    have e1 : l.drop i = l[i] :: l.drop (i + 1) := List.drop_eq_getElem_cons hlt
    rw [e1] at hgo
    simp only [ofGo] at hgo
    obtain ⟨ρ3, t1, h3⟩ := Option.bind_eq_some_iff.mp hgo
    obtain ⟨fl3, t2, h4⟩ := Option.bind_eq_some_iff.mp h3
    refine ⟨ρ2, l[i], ρ3, (er2.same s3).toER, r3, t1, fun σ4 H4 s4 st => ?_⟩
    have s24 := s3.trans s4
    have ext4 := ext.trans (Ext.of s24)
    refine ⟨ρ3, fl3, ⟨st.ers (er2.same s24).toERS, (er2.same s24).tabs, er2.notbl⟩, t2, ?_⟩
    cases fl3 with
    | nx ρ5 => exact fun σ5 H5 e5 r5 => ⟨ρ5, r5, ext4.trans e5, h4⟩
    | ct ρ5 => exact fun σ5 H5 e5 r5 => ⟨ρ5, r5, ext4.trans e5, h4⟩
    | bk ρ5 =>
      cases h4
      exact fun σ5 H5 e5 r5 => k σ5 H5 (((Ext.of s1).trans ext4).trans e5) r5
    | _ =>
      cases h4
      exact k
  · have e : i = l.length := by omega
    subst e
    rw [List.drop_length] at hgo
    cases hgo
    exact .inl ⟨w.stop H2 ext (fun a ha => (noS a ha).elim), k σ2 H2 ((Ext.of s1).trans ext) er2⟩
end
end PL
/-! ### part PH1 -/
namespace HotZ
open PySem PySem.Spec PyProof.Rows L2 HotX L2H
/-- the handled exception stands in the heap, its context is None -/
def HotH (x1 : Addr) (h : Heap) : Prop := ∃ (o : Obj) (vs : Array Value), h.get? x1 = some o ∧ o.data = .fields vs ∧ vs[2]? = some .none
section
variable {prog : Program} {w : World} {A : Around} {E : Value → Shared → Prop} {s : Shared}
theorem nextOf_list_end_hot {it l x1 : Addr} {i : Nat} {items} {Q : Value → Shared → Prop} (hh : A.handled = some (.ref x1)) (hot : HotH x1 s.heap) (hne : x1 ≠ it)
    (hit : s.heap.IsListIter it l i) (hl : s.heap.IsList l items) (hx : items[i]? = none)
    (hE : ∀ h' e, Heap.ExtBut it s.heap h' → (∃ o, h'.get? e = some o ∧ o.cls = .type "StopIteration") → E (.ref e) { s with heap := h' }) :
    wpAny (model prog w) A (Builtin.SmallTypes.nextOf (.ref it)) Q E s := by
  obtain ⟨o, ho, hc, hd⟩ := id hit
  obtain ⟨ol, hol, _, nl, hdl⟩ := hl
  obtain ⟨o1, vs1, h1, d1, c1⟩ := hot
  have ty := hit.typeIs
  unfold Builtin.SmallTypes.nextOf
  refine wpAny_bind (wpAny_callSpecial?_slot (name := Str.ofString "__next__") ty slot_listiter_next (wpAny_call_entry slot_listiter_next ty entry_listiter_next ?_ (args_listiter_next _)))
  change wpAny _ _ (field (.ref it) 0 >>= _) _ _ s
  refine wpAny_bind (wpAny_field ho hd (x := .ref l) rfl ?_)
  change wpAny _ _ (if (Value.ref l == Value.none) = true then _ else _) _ _ s
  rw [if_neg (show ¬ ((Value.ref l == Value.none) = true) from Bool.false_ne_true)]
  change wpAny _ _ (field (.ref it) 1 >>= _) _ _ s
  refine wpAny_bind (wpAny_field ho hd (x := .int i 0) rfl ?_)
  change wpAny _ _ (seqItems? (.ref l) >>= _) _ _ s
  refine wpAny_bind (wpAny_seqItems hol hdl ?_)
  simp only [Int.toNat_natCast, hx]
  refine wpAny_bind (wpAny_rule (wpAny_bind (wpAny_setField ho hd (by simp) ?_)))
  change wpAny _ _ (newExc (.type "StopIteration") [] >>= _) _ _ _
  refine wpAny_bind ?_
  simp only [newExc, newTuple]
  refine wpAny_bind (wpAny_newObj_type ?_ (by size_fits))
  refine wpAny_bind (m := firstArgMember _ _) (wpAny_of_eq (a := Value.none) (by first | rfl | (simp only [firstArgMember]; rfl)) ?_)
  refine wpAny_newObj_type ?_ (by size_fits)
  have k1 : ∀ b ob, b ≠ it → s.heap.get? b = some ob → (s.heap.update it (Obj.mapFields (·.setIfInBounds 0 .none))).get? b = some ob := fun b ob n e => by
    rw [Heap.get?_update_other _ _ (Ne.symm n)]; exact e
  have h1' := k1 _ _ hne h1
  refine raiseNew_hot ⟨hh, o1, vs1, Heap.get?_push_of_some _ (Heap.get?_push_of_some _ h1'), d1, c1⟩ (Nat.ne_of_lt (Heap.lt_size (Heap.get?_push_of_some _ h1'))) (Heap.get?_push_size _ rfl) rfl (by first | (simp; done) | (simp; omega) | (simp only [Array.size_append]; simp; omega)) ?_
  refine hE _ _ (fun b ob n e => ?_) ⟨_, Heap.get?_update_self _ (Heap.get?_push_size _ rfl) rfl, rfl⟩
  have e1 := k1 b ob n e
  rw [Heap.get?_update_other _ _ (Nat.ne_of_gt (Heap.lt_size (Heap.get?_push_of_some _ e1)))]
  exact Heap.get?_push_of_some _ (Heap.get?_push_of_some _ e1)
theorem draws_listH {x1 : Addr} (hh : A.handled = some (.ref x1)) (it l : Addr) (hne : l ≠ it) (hn1 : x1 ≠ it) (items : Array Value) :
    Draws prog w A it [it, l, x1] items.size (fun i v => items[i]? = some v) (fun i h => h.IsListIter it l i ∧ h.IsList l items ∧ HotH x1 h) where
  live := fun _ _ st => let ⟨o, ho, _⟩ := st.1; ⟨o, ho⟩
  frame := fun _ _ _ st hk => ⟨st.1.at fun o e => hk it (by simp) o e, st.2.1.at fun o e => hk l (by simp) o e, let ⟨o, vs, e, r⟩ := st.2.2; ⟨o, vs, hk x1 (by simp) o e, r⟩⟩
  item := fun i s Q E hi st hQ => by
    refine wpAny_nextOf_list_item st.1 st.2.1 (x := items[i]) (by simp [hi]) fun h' hit' hs' => ?_
    obtain ⟨o, vs, e, r⟩ := st.2.2
    exact hQ _ h' s.toks (by simp [hi]) ⟨hit', st.2.1.extBut hs'.extBut hne, o, vs, hs'.extBut _ _ hn1 e, r⟩ hs'
  done := fun s Q E st hE => nextOf_list_end_hot hh st.2.2 hn1 st.1 st.2.1 (by simp) hE
end
end HotZ
/-! ### part PH2 -/
namespace HotZ
open PySem PySem.Spec PyProof.Rows L2 HotX L2H PL
/-- a turn of a walk while the exception at x1 is handled -/
structure TurnX (P : Program) (w : World) (K : PySem.W.Frag) (tg : Expr) (J : It) (fp : List Addr) (it : Addr) (tn : Nat → Heap → Prop) (x1 : Addr) : Prop where
  mem : it ∈ fp
  obj : ∀ i h, tn i h → ∀ b ∈ fp, ∃ o, h.get? b = some o ∧ ∀ v, o.data ≠ .cell v
  keep : ∀ i h h', tn i h → (∀ b ∈ fp, ∀ o, h.get? b = some o → h'.get? b = some o) → tn i h'
  item : ∀ (X : Cx), X.prog = P → X.w = w → X.K = K → ∀ (i : Nat) (pins : List (Addr × Obj)) (s : Shared) (σ : L2.St) (H : Hp) (E : Value → Shared → Prop), Inv X pins σ H s → (∀ b ∈ fp, FpOk X pins H b) → HotAt X.A x1 s.heap → tn i s.heap → J.go i H →
    wpAny (model P w) X.A (pyNext (.ref it)) (fun r s1 => ∃ u, r = some u ∧
      wpAny (model P w) X.A (letOwnedTupleGo tg (.ref it) u) (fun _ s2 => ∃ x H', Inv X pins σ H' s2 ∧ RelV x u ∧ J.yld i H x H' ∧ tn (i + 1) s2.heap ∧ ∀ b ∈ fp, H' b = none) E s1) E s
  done : ∀ (X : Cx), X.prog = P → X.w = w → X.K = K → ∀ (i : Nat) (pins : List (Addr × Obj)) (s : Shared) (σ : L2.St) (H : Hp) (E : Value → Shared → Prop), Inv X pins σ H s → (∀ b ∈ fp, FpOk X pins H b) → HotAt X.A x1 s.heap → tn i s.heap → J.stop i H →
    wpAny (model P w) X.A (pyNext (.ref it)) (fun r s1 => r = none ∧ Inv X pins σ H s1) E s
  self : ∀ (A : Around) (i : Nat) (s : Shared) (Q : Value → Shared → Prop) (E : Value → Shared → Prop), tn i s.heap → Q (.ref it) s → wpAny (model P w) A (pyIter (.ref it)) Q E s
theorem turn_zipX {P : Program} {w : World} {K : PySem.W.Frag} {elts : List Expr} {kk : Nat} {tpos : Pos} {a b z TI TO i1 i2 x1 : Addr} (D : ZipApart z TI TO i1 i2 a b) (hx1 : x1 ∉ [z, TI, TO, i1, i2]) :
    TurnX P w K (.Tuple elts kk tpos) (ItzM K false false a b) [z, TI, TO, i1, i2] z (fun i h => IsZip h z TI TO .none ∧ IsPair h TI (.ref i1) (.ref i2) ∧ (∃ x y, IsPair h TO x y) ∧ sItr false h i1 a i ∧ sItr false h i2 b i) x1 where
  mem := by simp
  obj := fun i h st c hc => by
    obtain ⟨hz, hTI, ⟨x, y, hTO⟩, h1, h2⟩ := st
    have e' : c = z ∨ c = TI ∨ c = TO ∨ c = i1 ∨ c = i2 := by simpa using hc
    rcases e' with q | q | q | q | q
    · rw [q]; exact ⟨_, hz, fun v q => nomatch q⟩
    · rw [q]; exact ⟨_, hTI, fun v q => nomatch q⟩
    · rw [q]; exact ⟨_, hTO, fun v q => nomatch q⟩
    · rw [q]; exact h1.obj
    · rw [q]; exact h2.obj
  keep := fun i h h' st k => by
    obtain ⟨hz, hTI, ⟨x, y, hTO⟩, h1, h2⟩ := st
    exact ⟨k z (by simp) _ hz, k TI (by simp) _ hTI, ⟨x, y, k TO (by simp) _ hTO⟩, h1.at_ fun o q => k i1 (by simp) o q, h2.at_ fun o q => k i2 (by simp) o q⟩
  item := by
    intro X hP hw hK i pins s σ H E I hf hot st hg
    subst hP hw hK
    obtain ⟨hz, hTI, ⟨x0, y0, hTO⟩, h1, h2⟩ := st
    obtain ⟨xs, ys, x, y, hqx, hqy, hx, hy⟩ := hg
    obtain ⟨its, rv, p⟩ := inv_src I hqx
    obtain ⟨its2, rv2, p2⟩ := inv_src I hqy
    obtain ⟨u, hu, ru⟩ := rv.get hx
    obtain ⟨u2, hu2, ru2⟩ := rv2.get hy
    have hzl : z < s.heap.objs.size := Heap.lt_size hz
    have hi1 : i < its.toArray.size := by
      have := (List.getElem?_eq_some_iff.mp hu).1
      simpa using this
    have hi2 : i < its2.toArray.size := by
      have := (List.getElem?_eq_some_iff.mp hu2).1
      simpa using this
    have S : ZipSep2 z TI TO i1 i2 [i1, a, x1] [i2, b, x1] := by
      refine ⟨D.TIz, D.TOz, D.TITO, D.TIi1, by simp, ?_, ?_, D.TIi2, by simp, ?_, ?_, ?_, ?_⟩
      · simp only [List.mem_cons, List.not_mem_nil, or_false, not_or]; exact ⟨Ne.symm D.i1z, Ne.symm D.l1z, fun q => hx1 (by simp [q])⟩
      · simp only [List.mem_cons, List.not_mem_nil, or_false, not_or]; exact ⟨D.TOi1, Ne.symm D.l1TO, fun q => hx1 (by simp [q])⟩
      · simp only [List.mem_cons, List.not_mem_nil, or_false, not_or]; exact ⟨Ne.symm D.i2z, Ne.symm D.l2z, fun q => hx1 (by simp [q])⟩
      · simp only [List.mem_cons, List.not_mem_nil, or_false, not_or]; exact ⟨D.TOi2, Ne.symm D.l2TO, fun q => hx1 (by simp [q])⟩
      · simp only [List.mem_cons, List.not_mem_nil, or_false, not_or]; exact ⟨D.i12, Ne.symm D.l2i1, fun q => hx1 (by simp [q])⟩
      · simp only [List.mem_cons, List.not_mem_nil, or_false, not_or]; exact ⟨Ne.symm D.i12, Ne.symm D.l1i2, fun q => hx1 (by simp [q])⟩
    have hh : X.A.in1.handled = some (.ref x1) := hot.1
    have hH : HotH x1 s.heap := hot.2
    have D1 := draws_listH (prog := X.prog) (w := X.w) (A := X.A.in1) hh i1 a D.l1i1 (fun q => hx1 (by simp [q])) its.toArray
    have D2 := draws_listH (prog := X.prog) (w := X.w) (A := X.A.in1) hh i2 b D.l2i2 (fun q => hx1 (by simp [q])) its2.toArray
    have hT : s.TypeIs (.ref z) "zip" := ⟨_, hz, rfl⟩
    unfold pyNext
    refine wpAny_bind (wpAny_attempt (wpAny_callSpecial?_slot (name := Str.ofString "__next__") hT F.slot_zip_next
      (wpAny_call_entry F.slot_zip_next hT F.entry_zip_next
        (zipD2_next_item S D1 D2 hz hTI hTO ⟨h1, p, hH⟩ ⟨h2, p2, hH⟩ hi1 hi2 fun v1 v2 h' tk q1 q2 z' TO' s1' s2' hT hsz hk => wpAny_pure ?_) (F.args_zip_next_1 _))))
    have ev1 : v1 = u := by simpa [hu] using q1.symm
    have ev2 : v2 = u2 := by simpa [hu2] using q2.symm
    subst ev1 ev2
    refine ⟨_, rfl, wpAny_letOwnedTupleGo_zip (s := { s with heap := h', toks := tk }) z' fun h'' z'' sb => ?_⟩
    have hT2 : h''.get? s.heap.objs.size = some { cls := .type "tuple", data := .seq #[v1, v2] } := (sb.2 _ (Nat.ne_of_gt hzl)).trans hT
    have new : ObjOk X.prog X.w (upd H s.heap.objs.size (.tup [x, y])) h'' s.heap.objs.size (.tup [x, y]) :=
      ⟨by show 2 ≤ sizeLine; decide, [v1, v2], .cons ru (.cons ru2 .nil), ⟨_, hT2, rfl, _, rfl⟩⟩
    have I1 : Inv X pins σ (upd H s.heap.objs.size (.tup [x, y])) { s with heap := h'', toks := tk } :=
      I.turnedNew (t' := tk) (ch := [z, TI, TO, i1, i2]) (fun c o hb q => (sb.2 c (fun q' => hb (by simp [q']))).trans (hk c o (fun q' => hb (by simp [q'])) (fun q' => hb (by simp [q'])) (fun q' => hb (by simp [q'])) (fun q' => hb (by simp [q'])) q)) hf (Nat.le_refl _) new
    refine ⟨.ref s.heap.objs.size, _, I1, rfl, ⟨_, x, y, rfl, I.hok.fresh (Nat.le_refl _), rfl, fun l hl => by rw [inv_srcinj I hl hqx]; exact hx, fun l hl => by rw [inv_srcinj I hl hqy]; exact hy⟩, ⟨z'', ?_, ⟨v1, v2, ?_⟩, ?_, ?_⟩, fun c hcm => ?_⟩
    · exact (sb.2 _ D.TIz).trans (hk _ _ D.TIz D.TITO D.TIi1 D.TIi2 hTI)
    · exact (sb.2 _ D.TOz).trans TO'
    · exact sItr.at_ (k := false) s1'.1 fun o q => (sb.2 _ D.i1z).trans q
    · exact sItr.at_ (k := false) s2'.1 fun o q => (sb.2 _ D.i2z).trans q
    · have hlt : c < s.heap.objs.size := by
        have e' : c = z ∨ c = TI ∨ c = TO ∨ c = i1 ∨ c = i2 := by simpa using hcm
        rcases e' with q | q | q | q | q
        · rw [q]; exact hzl
        · rw [q]; exact Heap.lt_size hTI
        · rw [q]; exact Heap.lt_size hTO
        · rw [q]; obtain ⟨_, e1, _⟩ := h1.obj; exact Heap.lt_size e1
        · rw [q]; obtain ⟨_, e1, _⟩ := h2.obj; exact Heap.lt_size e1
      rw [upd_ne (Nat.ne_of_lt hlt)]
      exact (hf c hcm).1
  done := by
    intro X hP hw hK i pins s σ H E I hf hot st hg
    subst hP hw hK
    obtain ⟨hz, hTI, ⟨x0, y0, hTO⟩, h1, h2⟩ := st
    obtain ⟨xs, ys, hqx, hqy, hend⟩ := hg
    obtain ⟨its, rv, p⟩ := inv_src I hqx
    obtain ⟨its2, rv2, p2⟩ := inv_src I hqy
    have l1 := rv.length
    have l2 := rv2.length
    have S : ZipSep2 z TI TO i1 i2 [i1, a, x1] [i2, b, x1] := by
      refine ⟨D.TIz, D.TOz, D.TITO, D.TIi1, by simp, ?_, ?_, D.TIi2, by simp, ?_, ?_, ?_, ?_⟩
      · simp only [List.mem_cons, List.not_mem_nil, or_false, not_or]; exact ⟨Ne.symm D.i1z, Ne.symm D.l1z, fun q => hx1 (by simp [q])⟩
      · simp only [List.mem_cons, List.not_mem_nil, or_false, not_or]; exact ⟨D.TOi1, Ne.symm D.l1TO, fun q => hx1 (by simp [q])⟩
      · simp only [List.mem_cons, List.not_mem_nil, or_false, not_or]; exact ⟨Ne.symm D.i2z, Ne.symm D.l2z, fun q => hx1 (by simp [q])⟩
      · simp only [List.mem_cons, List.not_mem_nil, or_false, not_or]; exact ⟨D.TOi2, Ne.symm D.l2TO, fun q => hx1 (by simp [q])⟩
      · simp only [List.mem_cons, List.not_mem_nil, or_false, not_or]; exact ⟨D.i12, Ne.symm D.l2i1, fun q => hx1 (by simp [q])⟩
      · simp only [List.mem_cons, List.not_mem_nil, or_false, not_or]; exact ⟨Ne.symm D.i12, Ne.symm D.l1i2, fun q => hx1 (by simp [q])⟩
    have hh : X.A.in1.handled = some (.ref x1) := hot.1
    have hH : HotH x1 s.heap := hot.2
    have D1 := draws_listH (prog := X.prog) (w := X.w) (A := X.A.in1) hh i1 a D.l1i1 (fun q => hx1 (by simp [q])) its.toArray
    have D2 := draws_listH (prog := X.prog) (w := X.w) (A := X.A.in1) hh i2 b D.l2i2 (fun q => hx1 (by simp [q])) its2.toArray
    have hT : s.TypeIs (.ref z) "zip" := ⟨_, hz, rfl⟩
    unfold pyNext
    refine wpAny_bind (wpAny_attempt (wpAny_callSpecial?_slot (name := Str.ofString "__next__") hT F.slot_zip_next
      (wpAny_call_entry F.slot_zip_next hT F.entry_zip_next
        (zipD2_next_end S D1 D2 hz hTI hTO ⟨h1, p, hH⟩ ⟨h2, p2, hH⟩ (by rw [List.size_toArray]; omega) (by rw [List.size_toArray]; omega) (by rw [List.size_toArray, List.size_toArray]; omega) fun h' tk e hk he => ?_) (F.args_zip_next_1 _))))
    obtain ⟨o, ho, hcl⟩ := he
    refine wpAny_bind (wpAny_isInstance (T := "StopIteration") (b := true) ⟨o, ho, hcl⟩ isSubtype_stop ?_)
    refine wpAny_pure ⟨rfl, I.turnedL (t' := tk) (ch := [z, TI, TO, i1, i2]) (fun c o hb q =>
      hk c o (fun q' => hb (by simp [q'])) (fun q' => hb (by simp [q'])) (fun q' => hb (by simp [q'])) (fun q' => hb (by simp [q'])) q) hf⟩
  self := fun A i s Q E st h => wpAny_pyIter_zip st.1 h
end HotZ
/-! ### part PH3 -/
namespace HotZ
open PySem PySem.Spec PyProof.Rows L2 HotX L2H PL
/-- what is walked while the exception at x1 is handled -/
def PIEX (X : Cx) (pins : List (Addr × Obj)) (σ : L2.St) (tg : Expr) (x1 : Addr) (R : It → Hp → Prop) (itv : Value) (s2 : Shared) : Prop :=
  ∃ (it : Addr) (fp : List Addr) (tn : Nat → Heap → Prop) (J : It) (H' : Hp), itv = .ref it ∧ Inv X pins σ H' s2 ∧ TurnX X.prog X.w X.K tg J fp it tn x1 ∧ tn 0 s2.heap ∧ (∀ b ∈ fp, FpOk X pins H' b) ∧ x1 ∉ fp ∧ R J H'
structure PIX (X : Cx) (x1 : Addr) (tg iter : Expr) (wi : TI) : Prop where
  run : ∀ (pins : List (Addr × Obj)) (s : Shared) (σ : L2.St) (H : Hp) (R : It → Hp → Prop), Inv X pins σ H s → x1 < s.heap.objs.size → wi σ H R →
    wpAny (model X.prog X.w) X.A (eval iter X.env) (fun v s1 => wpAny (model X.prog X.w) X.A (pyIter v) (PIEX X pins σ tg x1 R) X.xe s1) X.xe s
def iZipX (K : PySem.W.Frag) (ta : TA) : TI := fun σ H R => ta σ H fun vs H1 => ∃ a b xs ys, vs = [.ref a, .ref b] ∧ sSrc K false H1 a xs ∧ sSrc K false H1 b ys ∧ R (ItzM K false false a b) H1
theorem pi_zipX {X : Cx} {x1 : Addr} {e e2 : Expr} {ta : TA} {p pos tpos : Pos} {elts : List Expr} {kk : Nat} (hg : Gl X "zip") (hm : X.mg "zip" = none) (hot : ∀ pins σ H s, Inv X pins σ H s → x1 < s.heap.objs.size) (ha : PA X [e, e2] ta)
    (hs : starEach [e, e2] X.env = (false, eval e X.env) :: starEach [e2] X.env := by rfl) (hpl : (backTo pos (starEach [e2] X.env)).any (·.1) = false := by rfl) :
    PIX X x1 (.Tuple elts kk tpos) (.Call (.Name "zip" p) [e, e2] [] pos) (iZipX X.K ta) := by
  refine ⟨fun pins s σ H R I _ h => ?_⟩
  refine Call_ (ld_blt I hg hm PyProof.Rows.boot_zip (PyProof.Rows.callWith_type1 (thn (ha.run pos pins s σ H _ I h) fun us s1 ⟨vs, H1, I1, r1, q1⟩ => ?_) hs hpl))
  obtain ⟨a, b, xs, ys, ex, hqx, hqy, q⟩ := q1
  subst ex
  have hx1 := hot _ _ _ _ I1
  cases r1 with
  | cons r rr =>
    cases rr with
    | cons r' rr =>
      cases rr
      cases r
      cases r'
      obtain ⟨its, rv, p1⟩ := inv_src I1 hqx
      obtain ⟨its2, rv2, p2⟩ := inv_src I1 hqy
      refine zip_begins2 (sBegins false a its.toArray) (sBegins false b its2.toArray) p1 p2 fun h' hz hTI hTO h1 h2 hsz hk => wpAny_pyIter_zip hz ?_
      have I2 : Inv X pins σ H1 { s1 with heap := h' } := I1.kept (t' := s1.toks) hk
      have far : ∀ c ∈ [s1.heap.objs.size + 4, s1.heap.objs.size + 2, s1.heap.objs.size + 3, s1.heap.objs.size, s1.heap.objs.size + 1], s1.heap.objs.size ≤ c := fun c hcm => by
        simp only [List.mem_cons, List.not_mem_nil, or_false] at hcm
        omega
      have nx : x1 ∉ [s1.heap.objs.size + 4, s1.heap.objs.size + 2, s1.heap.objs.size + 3, s1.heap.objs.size, s1.heap.objs.size + 1] := fun z => absurd (far _ z) (Nat.not_le.mpr hx1)
      exact ⟨s1.heap.objs.size + 4, _, _, _, H1, rfl, I2, turn_zipX (PySem.W.ktu_apart s1.heap.objs.size a b p1.lt p2.lt) nx, ⟨hz, hTI, ⟨_, _, hTO⟩, sItr0 h1, sItr0 h2⟩, fun c hcm => I1.fpOk (far c hcm) (I1.hok.fresh (far c hcm)), nx, q⟩
end HotZ
/-! ### part PHT -/
namespace HotZ
open PySem PySem.Spec PyProof.Rows L2 HotX L2H
/-! ### a tuple unpacked while an exception is handled -/
section
variable {prog : Program} {w : World} {A : Around} {E : Value → Shared → Prop} {s : Shared}
theorem next_tuple_end_hot {it t x1 : Addr} {i : Nat} {items} {Q : Option Value → Shared → Prop} (hh : A.handled = some (.ref x1)) (hot : HotH x1 s.heap) (hne : x1 ≠ it)
    (hit : IsTupIter s.heap it t i) (ht : IsTup s.heap t items) (hx : items[i]? = none)
    (hQ : ∀ h', Heap.ExtBut it s.heap h' → Q none { s with heap := h' }) : wpAny (model prog w) A (pyNext (.ref it)) Q E s := by
  obtain ⟨o, ho, hc, hd⟩ := id hit
  obtain ⟨ol, hol, _, nl, hdl⟩ := ht
  obtain ⟨o1, vs1, h1, d1, c1⟩ := hot
  unfold pyNext
  refine wpAny_bind (wpAny_attempt (wpAny_callSpecial?_slot (name := Str.ofString "__next__") hit.typeIs slot_tupleiter_next
    (wpAny_call_entry slot_tupleiter_next hit.typeIs entry_tupleiter_next ?_ (args_tupleiter_next _))))
  show wpAny _ _ (field (.ref it) 0 >>= _) _ _ s
  refine wpAny_bind (wpAny_field ho hd (x := .ref t) rfl ?_)
  show wpAny _ _ (if (Value.ref t == Value.none) = true then _ else _) _ _ s
  rw [if_neg (show ¬ ((Value.ref t == Value.none) = true) from Bool.false_ne_true)]
  show wpAny _ _ (field (.ref it) 1 >>= _) _ _ s
  refine wpAny_bind (wpAny_field ho hd (x := .int i 0) rfl ?_)
  show wpAny _ _ (seqItems? (.ref t) >>= _) _ _ s
  refine wpAny_bind (wpAny_seqItems hol hdl ?_)
  simp only [Int.toNat_natCast, hx]
  refine wpAny_bind (wpAny_rule (wpAny_bind (wpAny_setField ho hd (by simp) ?_)))
  show wpAny _ _ (newExc (.type "StopIteration") [] >>= _) _ _ _
  refine wpAny_bind ?_
  simp only [newExc, newTuple]
  refine wpAny_bind (wpAny_newObj_type ?_ (by size_fits))
  refine wpAny_bind (m := firstArgMember _ _) (wpAny_of_eq (a := Value.none) (by first | rfl | (simp only [firstArgMember]; rfl)) ?_)
  refine wpAny_newObj_type ?_ (by size_fits)
  have k1 : ∀ b ob, b ≠ it → s.heap.get? b = some ob → (s.heap.update it (Obj.mapFields (·.setIfInBounds 0 .none))).get? b = some ob := fun b ob n e => by
    rw [Heap.get?_update_other _ _ (Ne.symm n)]; exact e
  have h1' := k1 _ _ hne h1
  refine raiseNew_hot ⟨hh, o1, vs1, Heap.get?_push_of_some _ (Heap.get?_push_of_some _ h1'), d1, c1⟩ (Nat.ne_of_lt (Heap.lt_size (Heap.get?_push_of_some _ h1'))) (Heap.get?_push_size _ rfl) rfl (by first | (simp; done) | (simp; omega) | (simp only [Array.size_append]; simp; omega)) ?_
  refine wpAny_bind (wpAny_isInstance (T := "StopIteration") (b := true) ⟨_, Heap.get?_update_self _ (Heap.get?_push_size _ rfl) rfl, rfl⟩ isSubtype_stop ?_)
  refine wpAny_pure (hQ _ fun b ob n e => ?_)
  have e1 := k1 b ob n e
  rw [Heap.get?_update_other _ _ (Nat.ne_of_gt (Heap.lt_size (Heap.get?_push_of_some _ e1)))]
  exact Heap.get?_push_of_some _ (Heap.get?_push_of_some _ e1)
theorem unpackItems_tuple_hot {t x1 : Addr} {items : Array Value} {Q : List Value → Shared → Prop} (hh : A.handled = some (.ref x1)) (hot : HotH x1 s.heap) (ht : IsTup s.heap t items)
    (hQ : ∀ h', Heap.ExtBut s.heap.objs.size s.heap h' → Q items.toList { s with heap := h' }) : wpAny (model prog w) A (unpackItems (.ref t) items.size none) Q E s := by
  have hlt : t ≠ s.heap.objs.size := by obtain ⟨o, ho, _⟩ := ht; exact Nat.ne_of_lt (Heap.lt_size ho)
  have hlx : x1 ≠ s.heap.objs.size := by obtain ⟨o, _, ho, _⟩ := hot; exact Nat.ne_of_lt (Heap.lt_size ho)
  unfold unpackItems
  refine wpAny_bind ?_
  · unfold notIterableAtAll
    refine wpAny_bind (wpAny_specialOf ht.typeIs slot_tuple_iter.lookup ?_)
    refine wpAny_pure ?_
    simp only [Bool.false_eq_true, if_false]
    refine wpAny_bind (wpAny_holding (iter_tuple ht ?_))
    refine wpAny_bind (wpAny_holding (draw_tuple hlt items.size 0 _ _ ⟨_, Heap.get?_push_size _ rfl, rfl, rfl⟩ (ht.push _) (by omega) fun h₁ hit₁ hs₁ => ?_))
    have hall : List.take items.size (List.drop 0 items.toList) = items.toList := by
      rw [List.drop_zero]; exact List.take_of_length_le (by simp)
    rw [hall]
    rw [if_neg (by simp)]
    have ht₁ : IsTup h₁ t items := (ht.push _).extBut hs₁.extBut hlt
    have hot₁ : HotH x1 h₁ := by
      obtain ⟨o, vs, e, r⟩ := hot
      exact ⟨o, vs, hs₁.extBut _ _ hlx (Heap.get?_push_of_some _ e), r⟩
    refine wpAny_bind (wpAny_holding (next_tuple_end_hot (s := { s with heap := h₁ }) hh hot₁ hlx hit₁ ht₁ (by simp) fun h₂ he₂ => ?_))
    simp only [Option.isSome_none, Bool.false_eq_true, if_false]
    refine wpAny_pure (hQ h₂ fun b o hb e => he₂ b o hb (hs₁.extBut b o hb (Heap.get?_push_of_some _ e)))
theorem assign_Tuple_tuple_hot {env : Env} {elts : List Expr} {x} {pos : Pos} {t x1 : Addr} {items : Array Value} {Q : Unit → Shared → Prop} (hh : A.handled = some (.ref x1)) (hot : HotH x1 s.heap) (ht : IsTup s.heap t items)
    (hn : (assignEach elts env).length = items.size) (hstar : (assignEach elts env).findIdx? (·.1) = none)
    (h : ∀ h', Heap.ExtBut s.heap.objs.size s.heap h' → wpAny (model prog w) A (assignInOrder ((assignEach elts env).map (·.2)) items.toList) Q E { s with heap := h' }) :
    wpAny (model prog w) A (assign (.Tuple elts x pos) env (.ref t)) Q E s := by
  rw [assign_Tuple]
  refine wpAny_bind (wpAny_standAt ?_)
  unfold unpack
  rw [hn, hstar]
  exact wpAny_bind (wpAny_holding (unpackItems_tuple_hot hh hot ht h))
end
/-- a target that is met while x1 is handled -/
structure PGX (X : Cx) (x1 : Addr) (tg : Expr) (t : TG) : Prop where
  run : ∀ (pins : List (Addr × Obj)) (s : Shared) (σ : L2.St) (H : Hp) (v : V) (u : Value) (Q : L2.St → Hp → Prop), Inv X pins σ H s → HotAt X.A x1 s.heap → RelV v u → t v σ H Q → wpAny (model X.prog X.w) X.A (assign tg X.env u) (fun _ s' => ∃ σ' H', Inv X pins σ' H' s' ∧ Q σ' H') X.xe s
section
variable {X : Cx} {x1 : Addr} {tg : Expr} {t : TG} {pos : Pos}
theorem pgx_of (h : PG X tg t) : PGX X x1 tg t := ⟨fun pins s σ H v u Q I _ r k => h.run pins s σ H v u Q I r k⟩
theorem pgx_tup {es : List Expr} {k : Nat} {t : TGs} {n : Nat} (h : PGs X es t)
    (hn : (assignEach es X.env).length = n := by rfl) (hst : (assignEach es X.env).findIdx? (·.1) = none := by rfl) : PGX X x1 (.Tuple es k pos) (gTup X.K n t) := by
  refine ⟨fun pins s σ H v u Q I hot r hw => ?_⟩
  obtain ⟨a, xs, e1, hq, hl, hw⟩ := hw
  subst e1
  cases r
  obtain ⟨its, rv, ht, hz⟩ := I.tuple hq
  refine assign_Tuple_tuple_hot hot.1 hot.2 ht (by simp [hn, ← hl, rv.length]) hst fun h' hx => ?_
  have I1 : Inv X pins σ H { s with heap := h' } := I.kept (t' := s.toks) fun b o e => hx b o (Nat.ne_of_lt (Heap.lt_size e)) e
  exact h.run pins _ σ H xs _ Q I1 (by simpa using rv) hw
end
end HotZ
namespace PL
open PySem PySem.Spec PyProof.Rows L2 HotX L2H HotZ
def GEX (X : Cx) (x1 : Addr) (tg : Expr) (is : List Nat) (t : Tgt) : Prop := PGX X x1 tg (tT X.K is t)
section
variable {X : Cx} {x1 : Addr} {pos : Pos}
theorem gex_tup {es : List Expr} {k n : Nat} {is : List Nat} {ts : List D → Rho → Option Rho} (h : GEs X es is ts) (hn : (assignEach es X.env).length = n := by rfl) (hst : (assignEach es X.env).findIdx? (·.1) = none := by rfl) :
    GEX X x1 (.Tuple es k pos) is (tTup n ts) := by
  refine ⟨fun pins s σ H v u Q I hot r hw => (pgx_tup h hn hst).run pins s σ H v u Q I hot r ?_⟩
  obtain ⟨ρ, d, ρ', er, r, ht, q⟩ := hw
  cases d <;> simp only [tTup, reduceCtorEq] at ht
  split at ht
  · rename_i hl
    obtain ⟨a, vs, rfl, ha, ra⟩ := repW_tup (RepW.of r)
    exact ⟨a, vs, rfl, ha, by rw [ra.length]; exact hl, ρ, _, ρ', er, ra, ht, q⟩
  · cases ht
end
end PL
/-! ### part PH4 -/
namespace HotZ
open PySem PySem.Spec PyProof.Rows L2 HotX L2H PL
abbrev St := L2.St
section
variable {X : Cx}
theorem lc_coreX {x1 : Addr} {pins : List (Addr × Obj)} {s : Shared} {σ : St} {H : Hp} {Q : VK} {elt tg iter : Expr} {ifs : List Expr} {scope : Scope} {own : List (Str × Nat)} {pos pos' : Pos} {wi : TI} {g : TG} {tt : TT} {te : TE} {use : Option (Value → Sem Unit)} {Qf : Value → Shared → Prop}
    (hot : HotAt X.A x1 s.heap) (hxn : ∀ σ H s, Inv X pins σ H s → H x1 = none ∧ x1 ∉ frs X.stack ∧ HotH x1 s.heap) (hN : X.N.Nodup) (I : Inv X pins σ H s) (hi : PIX X x1 tg iter wi) (ok : BlkOk X.N X.env.scope scope own)
    (hg : ∀ (s : Shared) (H : Hp) (C : Addr) (cl : List (Str × Addr)) (fp : List Addr), PGX (X.blk s H scope (compEnvC scope cl C X.env) fp) x1 tg g) (ht : ∀ (s : Shared) (H : Hp) (C : Addr) (cl : List (Str × Addr)) (fp : List Addr), PTs (X.blk s H scope (compEnvC scope cl C X.env) fp) ifs tt)
    (he : ∀ (s : Shared) (H : Hp) (C : Addr) (cl : List (Str × Addr)) (fp : List Addr), PE (X.blk s H scope (compEnvC scope cl C X.env) fp) elt te) (hs : ∀ x, foldedSetIterable iter X.env x = pure x)
    (h : tLc wi g tt te (own.map (·.2)) σ H Q)
    (hRR : ∀ D C s' m H', Inv X pins σ H' s' → Q (.ref D) H' → s'.heap.Ns C m → FpOk X pins H' C → compPost (model X.prog X.w) X.A X.xe use Qf (.ref D) C (.ok .next) s') :
    wpAny (model X.prog X.w) X.A (comprehension (.ListComp elt [⟨tg, iter, ifs, 0⟩] scope pos) scope X.env pos' (newList []) false (eval iter X.env) use) Qf X.xe s := by
  have hfree : ∀ y ∈ scope.names, y.2 = .free → ∃ c, X.env.cells.lookup y.1 = some c := fun y hy e => by
    rcases ok.free y hy e with k | k
    · exact I.ok.has _ (.inl k)
    · exact I.ok.has _ (.inr k)
  refine wpAny_comprehension_free (use := use) rfl hs (closure_ok hfree) ok.kind (fun y hy e => by rw [ok.uniq y hy, e])
    (thn (hi.run pins s σ H _ I (let ⟨_, _, e, _⟩ := (hxn _ _ _ I).2.2; Heap.lt_size e) h) fun xv s1 hx => thn hx fun itv s2 h2 => ?_)
  obtain ⟨it, fp, tn, J, H2, e, I2, T, st2, f2, nfx, q⟩ := h2
  have hx2 := hxn _ _ _ I2
  subst e
  refine wpAny_newObj_type (newEnv_comp ?_) (by show 0 ≤ sizeLine; decide)
  generalize hD : s2.heap.objs.size = D
  have hDn : H2 D = none := I2.hok.fresh (Nat.le_of_eq hD)
  obtain ⟨W, ⟨m0, w0⟩, turn⟩ := q D hDn
  -- the new list
  generalize hs3 : ({ s2 with heap := s2.heap.push { cls := .type "list", data := .seq ([] : List Value).toArray } } : Shared) = s3
  have I3 : Inv X pins σ (upd H2 D (.lst [])) s3 := by
    rw [← hs3]
    refine I2.laid (t' := s2.toks) (fun b o e => Heap.get?_push_of_some _ e) (Nat.le_of_eq hD) ⟨Nat.zero_le _, [], 0, .nil, ?_⟩
    rw [← hD]
    exact Heap.get?_push_size _ rfl
  have h3 : s3.heap = s2.heap.push { cls := .type "list", data := .seq ([] : List Value).toArray } := by rw [← hs3]
  have sz : ∀ b ∈ fp, b < s2.heap.objs.size := fun b hb => by
    obtain ⟨o, e, _⟩ := T.obj _ _ st2 b hb
    exact Heap.lt_size e
  have f3 : ∀ b ∈ fp, FpOk X pins (upd H2 D (.lst [])) b ∧ b < s3.heap.objs.size := fun b hb => by
    have hlt := sz b hb
    refine ⟨⟨?_, (f2 b hb).2⟩, by rw [h3, Heap.size_push]; exact Nat.lt_succ_of_lt hlt⟩
    rw [upd_ne (by rw [← hD]; exact Nat.ne_of_lt hlt)]
    exact (f2 b hb).1
  have st3 : tn 0 s3.heap := T.keep _ _ _ st2 fun b _ o e => by rw [h3]; exact Heap.get?_push_of_some _ e
  have I4 := block_start I3 ok hN f3
  have pg := hg s3 (upd H2 D (.lst [])) s3.heap.objs.size (cellsFrom (s3.heap.objs.size + 1) scope.names (cloFrom X.env.cells scope.names [])) fp
  have pt := ht s3 (upd H2 D (.lst [])) s3.heap.objs.size (cellsFrom (s3.heap.objs.size + 1) scope.names (cloFrom X.env.cells scope.names [])) fp
  have pe := he s3 (upd H2 D (.lst [])) s3.heap.objs.size (cellsFrom (s3.heap.objs.size + 1) scope.names (cloFrom X.env.cells scope.names [])) fp
  show codeAny _ _ (.compStart (.ListComp elt [⟨tg, iter, ifs, 0⟩] scope pos) 0 (.ref it) (.ref D) (compEnvC scope (cellsFrom (s3.heap.objs.size + 1) scope.names (cloFrom X.env.cells scope.names [])) s3.heap.objs.size X.env)) (compPost (model X.prog X.w) X.A X.xe use Qf (.ref D) s3.heap.objs.size) { s3 with heap := pushCells (s3.heap.push { cls := .type "dict", data := .dict #[] }) scope.names }
  have nfp : ∀ b ∈ fp, (upd H2 D (.lst [])) b = none := fun b hb => (f3 b hb).1.1
  generalize hce : compEnvC scope (cellsFrom (s3.heap.objs.size + 1) scope.names (cloFrom X.env.cells scope.names [])) s3.heap.objs.size X.env = ce at I4 pg pt pe ⊢
  have cL : ce.locals = s3.heap.objs.size := by subst hce; rfl
  generalize hH3 : upd H2 D (.lst []) = H3 at I3 I4 pg pt pe w0 nfp f3
  generalize hs4 : ({ s3 with heap := pushCells (s3.heap.push { cls := .type "dict", data := .dict #[] }) scope.names } : Shared) = s4 at I4 ⊢
  have st4 : tn 0 s4.heap := T.keep _ _ _ st3 fun b _ o e => by rw [← hs4]; exact pushCells_keeps _ _ _ _ (Heap.get?_push_of_some _ e)
  have stat : ∀ {σ' : St} {H' : Hp} {s' : Shared}, Inv (X.blk s3 H3 scope ce fp) [] σ' H' s' → (∀ b ∈ fp, H' b = none) → ∀ b ∈ fp, FpOk (X.blk s3 H3 scope ce fp) [] H' b := fun {σ' H' s'} I' hn b hb =>
    ⟨hn b hb, (I'.ok.exf b hb).1, I'.ok.exfs b hb, .inl hb, fun x c e => (I'.ok.exf b hb).2 x c e, fun p hp => absurd (show p ∈ ([] : List (Addr × Obj)) ++ [] from hp) (by simp)⟩
  have hx3 := hxn _ _ _ I3
  have hotB : ∀ {σ' : St} {H' : Hp} {s' : Shared}, Inv (X.blk s3 H3 scope ce fp) [] σ' H' s' → HotAt X.A x1 s'.heap := fun {σ' H' s'} I' => by
    obtain ⟨n1, n2, o1, vs1, e1, d1, c1⟩ := hx3
    exact ⟨hot.1, o1, vs1, I'.base.keep x1 o1 e1 n1 n2 nfx, d1, c1⟩
  have loop : codeAny (model X.prog X.w) X.A (.compLoop (.ListComp elt [⟨tg, iter, ifs, 0⟩] scope pos) 0 (.ref it) (.ref D) ce) (compPost (model X.prog X.w) X.A X.xe use Qf (.ref D) s3.heap.objs.size) s4 := by
    refine compLoop_any (fun n s' => ∃ i H', Inv (X.blk s3 H3 scope ce fp) [] (wipe σ (own.map (·.2))) H' s' ∧ tn i s'.heap ∧ (∀ b ∈ fp, H' b = none) ∧ W i n H') ?_ m0 ⟨0, H3, I4, st4, nfp, w0⟩
    rintro n s5 ⟨i, H5, I5, st5, n5, w5⟩
    rcases turn i n H5 w5 with ⟨stop, qq⟩ | ⟨go, Nx, hNx, step⟩
    · have td := T.done (X.blk s3 H3 scope ce fp) rfl rfl rfl i [] s5 _ H5 (fun _ _ => False) I5 (stat I5 n5) (hotB I5) st5 stop
      refine thnF td fun r s6 ⟨hr, I6⟩ => ?_
      subst hr
      -- back in the def's context
      have I7 : Inv X pins σ H5 s6 := I3.call' (ch := fp) I6.os I6.base I6.hok I6.bare fun b hb => ⟨(f3 b hb).1.2.2.2.1, (f3 b hb).1.2.1, (f3 b hb).1.2.2.2.2.1, (f3 b hb).1.2.2.2.2.2⟩
      have nC : H5 s3.heap.objs.size = none := by
        have z : H5 ce.locals = none := I6.free
        rw [cL] at z
        exact z
      obtain ⟨m, hn, _⟩ := I6.loc
      have hn : s6.heap.Ns ce.locals m := hn
      rw [cL] at hn
      exact hRR D s3.heap.objs.size s6 m H5 I7 qq hn (I3.fpOk (Nat.le_refl _) nC)
    · have ti := T.item (X.blk s3 H3 scope ce fp) rfl rfl rfl i [] s5 _ H5 (fun _ _ => False) I5 (stat I5 n5) (hotB I5) st5 go
      refine thnF ti fun r s6 ⟨u, hr, h6⟩ => ?_
      subst hr
      refine thnF h6 fun _ s7 ⟨x, H7, I7, r7, y7, st7, n7⟩ => ?_
      have I7' := I7.pinned (stat I7 n7) (T.obj _ _ st7)
      refine thnF (pg.run _ s7 _ H7 x u _ I7' (hotB I7) r7 (step x H7 y7)) fun _ s8 ⟨σ8, H8, I8, hw8, q8⟩ => ?_
      refine thnF (pt.run _ s8 σ8 H8 _ I8 q8) fun b s9 ⟨H9, I9, q9⟩ => ?_
      -- the turn's end
      have fin : ∀ {s' : Shared} {H' : Hp}, Inv (X.blk s3 H3 scope ce fp) ([] ++ pinsAt fp s7.heap) σ8 H' s' → Nx H' → ∃ m, m < n ∧ ∃ i H', Inv (X.blk s3 H3 scope ce fp) [] (wipe σ (own.map (·.2))) H' s' ∧ tn i s'.heap ∧ (∀ b ∈ fp, H' b = none) ∧ W i m H' := fun {s' H'} I' nx => by
        obtain ⟨m', hm, w'⟩ := hNx H' nx
        have pin' : ∀ b ∈ fp, ∀ o, s7.heap.get? b = some o → s'.heap.get? b = some o ∧ H' b = none := fun b hb o e =>
          let z := I'.pin (b, o) (List.mem_append_right _ (List.mem_append_right _ (mem_pinsAt hb e)))
          ⟨z.1, z.2.1⟩
        have hl : (wipe σ (own.map (·.2))).length = σ8.length := by rw [← hw8, wipe_length]
        refine ⟨m', hm, i + 1, H', (I'.unpinned (pins := [])).weak hl (fun j v e => ?_), T.keep _ _ _ st7 fun b hb o e => (pin' b hb o e).1, fun b hb => ?_, w'⟩
        · rw [← hw8] at e
          exact (wipe_some e).1
        · obtain ⟨o, e, _⟩ := T.obj _ _ st7 b hb
          exact (pin' b hb o e).2
      cases b with
      | false =>
        simp only [Bool.false_eq_true, if_false] at q9 ⊢
        exact fin I9 q9
      | true =>
        simp only [if_true] at q9 ⊢
        refine thnF (pe.run _ s9 σ8 H9 _ I9 q9) fun z s10 ⟨yv, H10, I10, r10, acc, hD10, hz10, nx⟩ => ?_
        exact app_ok (X := X.blk s3 H3 scope ce fp) I10 hD10 hz10 r10 fun s11 I11 => fin I11 nx
  exact codeAny_compStart_list loop (T.self X.A 0 _ _ _ st4 loop)
theorem pe_lcX {x1 : Addr} {elt tg iter : Expr} {ifs : List Expr} {scope : Scope} {own : List (Str × Nat)} {pos : Pos} {wi : TI} {g : TG} {tt : TT} {te : TE} (hot : ∀ pins σ H s, Inv X pins σ H s → HotAt X.A x1 s.heap ∧ H x1 = none ∧ x1 ∉ frs X.stack) (hN : X.N.Nodup) (hi : PIX X x1 tg iter wi) (ok : BlkOk X.N X.env.scope scope own)
    (hg : ∀ (s : Shared) (H : Hp) (C : Addr) (cl : List (Str × Addr)) (fp : List Addr), PGX (X.blk s H scope (compEnvC scope cl C X.env) fp) x1 tg g) (ht : ∀ (s : Shared) (H : Hp) (C : Addr) (cl : List (Str × Addr)) (fp : List Addr), PTs (X.blk s H scope (compEnvC scope cl C X.env) fp) ifs tt)
    (he : ∀ (s : Shared) (H : Hp) (C : Addr) (cl : List (Str × Addr)) (fp : List Addr), PE (X.blk s H scope (compEnvC scope cl C X.env) fp) elt te) (hs : ∀ x, foldedSetIterable iter X.env x = pure x := by intro _; rfl) :
    PE X (.ListComp elt [⟨tg, iter, ifs, 0⟩] scope pos) (tLc wi g tt te (own.map (·.2))) := by
  refine ⟨fun pins s σ H Q I h => ?_⟩
  rw [eval_ListComp]
  refine lc_coreX (hot _ _ _ _ I).1 (fun σ H s I => ⟨(hot _ _ _ _ I).2.1, (hot _ _ _ _ I).2.2, (hot _ _ _ _ I).1.2⟩) hN I hi ok hg ht he hs h fun D C s' m H' I' q hn f => ⟨m, hn, fun h'' sb => ?_⟩
  obtain ⟨f0, f1, f2, f3, f4, f5⟩ := f
  exact ⟨.ref D, H', I'.turned (t' := s'.toks) (fun b o hb e => (sb.2 b hb).trans e) f0 f1 f3 f4 f5, rfl, q⟩
end
end HotZ
/-! ### part PH5 -/
namespace PL
open PySem PySem.Spec PyProof.Rows L2 HotX L2H HotZ

/-! ### texts joined -/
def jStrs : List D → Option (List Str)
  | [] => some []
  | .str x :: r => (jStrs r).map (x :: ·)
  | _ => none
theorem jStrs_rep {K : PySem.W.Frag} {H : Hp} : ∀ {ds : List D} {ys : List Str} {vs : List V}, jStrs ds = some ys → RepL K H ds vs → vs = ys.map V.str
  | [], ys, vs, h, r => by simp only [jStrs] at h; cases h; simp only [RepL] at r; exact r
  | d :: ds, ys, vs, h, r => by
    cases d <;> simp only [jStrs, reduceCtorEq] at h
    obtain ⟨zs, h1, rfl⟩ := Option.map_eq_some_iff.mp h
    simp only [RepL] at r
    obtain ⟨v, s, rfl, r1, r2⟩ := r
    simp only [RepF] at r1
    subst r1
    rw [jStrs_rep h1 r2]
    rfl
def joinD (a : Str) (ys : List Str) : Option D := if small ((ys.map (·.length)).sum + ys.length * a.length) then some (.str (Txt.join a ys)) else none
def gJoin : D → D → Option D
  | .str a, .lst ds => (jStrs ds).bind (joinD a)
  | .str a, .tup ds => (jStrs ds).bind (joinD a)
  | _, _ => none
section
variable {X : Cx} {o e : Expr} {fo f : Rho → Option D} {apos pos : Pos}
theorem fe_join (ho : FE X o fo) (he : WE X e f) (hs : starEach [e] X.env = [(false, eval e X.env)] := by rfl) (hbase : attributeBase o "join" X.env (eval o X.env) = eval o X.env := by rfl) (hline : (apos.endLine == pos.line) = true := by rfl) :
    FE X (.Call (.Attribute o "join" apos) [e] [] pos) (b2 gJoin fo f) := PE.weak (pe_join ho he hs hbase hline) fun σ H Q ⟨ρ, d, er, hf, q⟩ => by
  obtain ⟨x, y, h1, h2, h3⟩ := b2_some hf
  refine ⟨ρ, x, er, h1, fun v H1 s1 r1 => ?_⟩
  have fin : ∀ {a : Str} {u : V} {H2 : Hp} {ds : List D} {vs : List V} {p : Addr}, Same H1 H2 → (jStrs ds).bind (joinD a) = some d → RepL X.K H2 ds vs → u = .ref p → (SqL X.K H2 p vs ∨ SqT X.K H2 p vs) → ∃ a_1 p, ∃ ys : List Str, V.str a = .str a_1 ∧ [u] = [.ref p] ∧ (SqL X.K H2 p (ys.map V.str) ∨ SqT X.K H2 p (ys.map V.str)) ∧
      (ys.map (·.length)).sum + ys.length * a_1.length ≤ 16777216 ∧ Q (.str (Txt.join a_1 ys)) H2 := by
    intro a u H2 ds vs p s2 h r e hq
    obtain ⟨ys, h4, h5⟩ := Option.bind_eq_some_iff.mp h
    unfold joinD at h5
    split at h5
    · rename_i hsm
      cases h5
      have ev := jStrs_rep h4 r
      subst ev e
      exact ⟨a, p, ys, rfl, rfl, hq, of_decide_eq_true hsm, q _ H2 (s1.trans s2) repF_str⟩
    · cases h5
  cases x <;> cases y <;> simp only [gJoin, reduceCtorEq] at h3
  · simp only [RepF] at r1
    subst r1
    refine ⟨⟨_, rfl⟩, ρ, _, er.same s1, h2, fun u H2 s2 r2 => ?_⟩
    obtain ⟨p, vs, rfl, hT, rl⟩ := repW_tup r2
    exact fin s2 h3 rl rfl (.inr hT)
  · simp only [RepF] at r1
    subst r1
    refine ⟨⟨_, rfl⟩, ρ, _, er.same s1, h2, fun u H2 s2 r2 => ?_⟩
    obtain ⟨p, vs, rfl, hR, rl⟩ := repW_lst r2
    exact fin s2 h3 rl rfl (.inl (.inl hR))
end

/-! ### isinstance of the handled exception -/
section
variable {X : Cx} {a D0 : Addr} {oe : Obj}
theorem call_isEp (hp : (a, oe) ∈ X.pn) (C : ExcC X.K D0) (hz : Zc (.ref D0) none oe) (hf : ∃ vs, oe.data = .fields vs) : CallR X (.builtin "isinstance") (rIsE X.K D0 a) := by
  intro pins s σ H xs us Q I r h
  obtain ⟨c, cv, b, rfl, hcv, e, q⟩ := h
  obtain ⟨hget, _⟩ := I.pin (a, oe) (List.mem_append.mpr (.inl hp))
  obtain ⟨vs, hv⟩ := hf
  have J : PySem.W.InstAt s.heap a oe D0 none := by
    obtain ⟨oc, od, oda, osl⟩ := oe
    obtain ⟨h1, h2⟩ := hz
    dsimp only at h1 h2 hv
    subst h1 h2 hv
    exact ⟨hget, rfl, rfl, trivial⟩
  cases r with
  | cons rx rr =>
    cases rr with
    | cons rt rr =>
      cases rr
      cases rx
      have ec := hcv _ rt
      subst ec
      exact PySem.W.kia_one (PySem.W.handS_kitx_exc C.hg C.hk C.hs C.hd C.ha C.hn C.ht C.hm) I.kIn J e (fun z => nomatch z) fun tk => ⟨.bl b, H, I.kept (t' := tk) fun _ _ z => z, rfl, q⟩
def fIsE (i : Nat) (a : Addr) (b : Bool) : Rho → Option D := fun ρ => match ρ[i]?.join with
  | some (.adr x) => if x = a then some (.bl b) else none
  | _ => none
theorem fe_isE {en cn : Str} {p p1 p2 pos : Pos} {c : V} {cv : Value} {b : Bool} (i : Nat) (hp : (a, oe) ∈ X.pn) (C : ExcC X.K D0) (hz : Zc (.ref D0) none oe) (hf : ∃ vs, oe.data = .fields vs) (hg : Gl X "isinstance") (hm : X.mg "isinstance" = none)
    (hN : X.N[i]? = some en) (hv : Vis X.env.scope en) (hc : PE X (.Name cn p2) (tC c)) (hcv : ∀ u, RelV c u → u = cv) (hk : PySem.W.kitOne X.K (.ref D0) cv = some b) (hd : (en == ("__debug__" : Str)) = false := by decide) (hcd : (en == ("__classdict__" : Str)) = false := by decide)
    (he : starEach [.Name en p1, .Name cn p2] X.env = (false, eval (.Name en p1) X.env) :: starEach [.Name cn p2] X.env := by rfl) (he2 : starEach [.Name cn p2] X.env = (false, eval (.Name cn p2) X.env) :: starEach [] X.env := by rfl) (hpl : (backTo pos (starEach [.Name cn p2] X.env)).any (·.1) = false := by rfl) :
    FE X (.Call (.Name "isinstance" p) [.Name en p1, .Name cn p2] [] pos) (fIsE i a b) :=
  PE.weak (pe_callB (call_isEp hp C hz hf) hg hm (by decide +kernel : bootBuiltins "isinstance" = some (.builtin "isinstance")) (pa_cons (pe_var hN hv hd hcd) (pa_cons hc pa_nil he2) he) (by decide) (by decide) he hpl) fun σ H Q ⟨ρ, d, er, hf', q⟩ => by
    unfold fIsE at hf'
    split at hf'
    · rename_i x hx
      split at hf'
      · rename_i ex
        cases hf'
        obtain ⟨v, h1, r⟩ := er.slot i _ (Option.join_eq_some_iff.mp hx)
        have r : RepF X.K H (.adr x) v := r
        simp only [RepF] at r
        subst r ex
        exact ⟨_, h1, c, cv, b, rfl, hcv, hk, q _ H (Same.refl H) repF_bl⟩
      · cases hf'
    · cases hf'
end
/-! ### a list comprehension over zip while an exception is handled -/
section
variable {X : Cx} {x1 : Addr} {a b : Expr} {fa fb : Rho → Option D}
def zipL : D → D → Option (List D)
  | .lst xs, .lst ys => some (zipD xs ys)
  | _, _ => none
def fZipL (fa fb : Rho → Option D) : Rho → Option (List D) := fun ρ => (fa ρ).bind fun x => (fb ρ).bind fun y => zipL x y
def IEX (X : Cx) (x1 : Addr) (tg it : Expr) (f : Rho → Option (List D)) : Prop := PIX X x1 tg it (iI X.K true f)
theorem iex_zip {p pos tpos : Pos} {elts : List Expr} {kk : Nat} (hg : Gl X "zip") (hm : X.mg "zip" = none) (hot : ∀ pins σ H s, Inv X pins σ H s → x1 < s.heap.objs.size) (ha : FE X a fa) (hb : FE X b fb) (hs : starEach [a, b] X.env = (false, eval a X.env) :: starEach [b] X.env := by rfl)
    (hs2 : starEach [b] X.env = (false, eval b X.env) :: starEach [] X.env := by rfl) (hpl : (backTo pos (starEach [b] X.env)).any (·.1) = false := by rfl) :
    IEX X x1 (.Tuple elts kk tpos) (.Call (.Name "zip" p) [a, b] [] pos) (fZipL fa fb) := by
  refine ⟨fun pins s σ H R I hl h => (pi_zipX hg hm hot (pa_cons ha (pa_cons hb pa_nil hs2) hs) hs hpl).run pins s σ H R I hl ?_⟩
  obtain ⟨ρ, l, er, hf, q⟩ := h
  obtain ⟨x, h1, hf1⟩ := Option.bind_eq_some_iff.mp hf
  obtain ⟨y, h2, h3⟩ := Option.bind_eq_some_iff.mp hf1
  refine ⟨ρ, x, er, h1, fun v H1 s1 r1 => ⟨ρ, y, er.same s1, h2, fun u H2 s2 r2 => ?_⟩⟩
  have r1 := r1.ext (Ext.of s2)
  cases x <;> cases y <;> simp only [zipL, reduceCtorEq] at h3
  cases h3
  simp only [RepF] at r1 r2
  obtain ⟨p1, vs, o1, rfl, e1, rv⟩ := r1
  obtain ⟨p2, us, o2, rfl, e2, ru⟩ := r2
  have w1 : ∀ H1, Ext H2 H1 → sSrc X.K false H1 p1 vs := fun H1 e => .inl (.inr ⟨o1, e.frz _ _ _ e1⟩)
  have w2 : ∀ H1, Ext H2 H1 → sSrc X.K false H1 p2 us := fun H1 e => .inl (.inr ⟨o2, e.frz _ _ _ e2⟩)
  exact ⟨p1, p2, vs, us, rfl, w1 H2 (Ext.refl _), w2 H2 (Ext.refl _), q _ H2 (fun _ => False) (s1.trans s2) (wk_zip _ (fun H1 e _ => w1 H1 e) (fun H1 e _ => w2 H1 e) rv ru) (fun a z => z.elim) (fun _ a z => z)⟩
theorem me_lcX {elt tg iter : Expr} {ifs : List Expr} {scope : Scope} {own : List (Str × Nat)} {pos : Pos} {src : Rho → Option (List D)} {is vs : List Nat} {t : Tgt} {c : Rho → Option Bool} {e : Rho → Option D} (hot : ∀ pins σ H s, Inv X pins σ H s → HotAt X.A x1 s.heap ∧ H x1 = none ∧ x1 ∉ frs X.stack) (hN : X.N.Nodup) (hi : IEX X x1 tg iter src) (ok : BlkOk X.N X.env.scope scope own)
    (hg : ∀ (s : Shared) (H : Hp) (C : Addr) (cl : List (Str × Addr)) (fp : List Addr), GEX (X.blk s H scope (compEnvC scope cl C X.env) fp) x1 tg is t) (ht : ∀ (s : Shared) (H : Hp) (C : Addr) (cl : List (Str × Addr)) (fp : List Addr), IFs (X.blk s H scope (compEnvC scope cl C X.env) fp) ifs c)
    (he : ∀ (s : Shared) (H : Hp) (C : Addr) (cl : List (Str × Addr)) (fp : List Addr), FE (X.blk s H scope (compEnvC scope cl C X.env) fp) elt e) (hvs : own.map (·.2) = vs := by rfl) (hv : ∀ i ∈ is, i ∈ vs := by decide) (hs : ∀ x, foldedSetIterable iter X.env x = pure x := by intro _; rfl) :
    ME X (.ListComp elt [⟨tg, iter, ifs, 0⟩] scope pos) (fComp src vs t c e) := by
  subst hvs
  exact PE.weak (pe_lcX (g := tT X.K is t) (tt := tB X.K c) (te := tF X.K e) hot hN hi ok hg ht he hs) fun σ H Q h => tlc_of hv h
end
end PL
/-! ### part PH6 -/
namespace LamN
open PySem PySem.Spec PyProof.Rows L2 LamX
/-- the context of the lambda's body, entered at s from the frames outer -/
def lamCx (X : Cx) (A : Around) (outer : List Env) (s : Shared) (H : Hp) (E : XK) (scope : Scope) (f c' : Addr) : Cx where
  prog := X.prog
  w := X.w
  K := X.K
  mg := X.mg
  base := X.base
  A := A.deeper (lamEnv X scope s.heap.objs.size f c')
  N := X.N
  s_0 := s
  H_0 := H
  env := lamEnv X scope s.heap.objs.size f c'
  outer := outer
  stack := lamEnv X scope s.heap.objs.size f c' :: outer
  ex := []
  fn := fun _ => false
  calm := true
  pn := []
  xe := fun e s' => wpAny (model X.prog X.w) (A.deeper (lamEnv X scope s.heap.objs.size f c')) (leaving (lamEnv X scope s.heap.objs.size f c') e) (fun _ s'' => L2N.CX X.prog X.w outer H s E e s'') (fun e' s'' => L2N.CX X.prog X.w outer H s E e' s'') s'
section
variable {X : Cx} {pins : List (Addr × Obj)} {σ : L2.St} {H HZ : Hp} {s s1 : Shared}
theorem lam_start2 {A : Around} {outer : List Env} {E : XK} {scope : Scope} {f c' : Addr} {h₁ : Heap} {tk : Nat} (I : Inv X pins σ H s) (L : LamS X.env.scope scope) (e0 : Env0 X.prog X.w X.K X.mg X.base A outer s1 HZ) (hd : A.handled = none)
    (un : Un (frs X.stack) [] H HZ s.heap s1.heap) (hns : h₁.Ns s1.heap.objs.size fun y => ([] : List (Str × Value)).reverse.lookup y) (kp : ∀ b o, s1.heap.get? b = some o → h₁.get? b = some o) :
    Inv (lamCx X A outer s1 HZ E scope f c') [] σ HZ { s1 with heap := h₁, toks := tk } := by
  have hfree := L.has I.ok
  have cm : ∀ {y c}, (cloFrom X.env.cells scope.names []).lookup y = some c → X.env.cells.lookup y = some c := fun {y c} e => by
    rcases cloFrom_mem (PySem.mem_of_lookup e) with hm | ⟨h1, h2⟩
    · cases hm
    · obtain ⟨c1, hc⟩ := hfree _ h1 rfl
      have hc : X.env.cells.lookup y = some c1 := hc
      have e2 : c = c1 := by
        rw [h2, hc] <;> rfl
      rw [e2]
      exact hc
  have look : ∀ {y}, scope.names.lookup y = some .free → ∃ c, (cloFrom X.env.cells scope.names []).lookup y = some c := fun {y} hl => by
    have hy : (y, NameKind.free) ∈ scope.names := PySem.mem_of_lookup hl
    exact mem_lookup (cloFrom_has (cells := X.env.cells) (acc := []) hy)
  have cellK : ∀ {c : Addr} {v : Option Value}, H c = none → s.heap.IsCell c v → h₁.IsCell c v := fun {c v} n ⟨o, ho, hd⟩ => by
    obtain ⟨sl, q⟩ := un.any ho n (by simp)
    exact ⟨_, kp _ _ q, hd⟩
  have noA : ∀ b : Addr, b ∉ (lamCx X A outer s1 HZ E scope f c').ex := fun b z => absurd (show b ∈ ([] : List Addr) from z) (by simp)
  refine ⟨⟨e0.mod, L.kind, rfl, rfl, Nat.le_refl _, fun y z c e1 e2 => I.ok.inj y z c (cm e1) (cm e2), fun y hy => ?_, fun y c z _ => ?_, fun _ => hd, Around.frames_deeper e0.frames, .inr ⟨rfl, rfl⟩, fun b z => absurd z (noA b), e0.bs, e0.bsz, fun b _ _ => noA b,
      fun b z => absurd z (noA b), e0.funs, e0.frf⟩,
    rfl, e0.bare, Un.kept kp, ⟨_, hns, fun i y v e1 e2 e3 => ?_⟩, fun y c e => ?_, e0.hok.fresh (Nat.le_refl _), fun y c e => ?_, fun q hq => absurd (show q ∈ ([] : List (Addr × Obj)) ++ [] from hq) (by simp), e0.hok.kept kp, I.len⟩
  · have hy : scope.names.lookup y = some .cell ∨ scope.names.lookup y = some .free := hy
    rcases hy with hy | hy
    · exact absurd rfl (L.own _ (PySem.mem_of_lookup hy)).2
    · exact look hy
  · have z : false = true := z
    cases z
  · have e3 : Vis scope y := e3
    rcases e3 with k | k | k
    · exact absurd rfl (L.own _ (PySem.mem_of_lookup k)).1
    · exact absurd rfl (L.own _ (PySem.mem_of_lookup k)).2
    · obtain ⟨m, hn, hl⟩ := I.loc
      have hvis : Vis X.env.scope y := (L.free _ (PySem.mem_of_lookup k) rfl).elim (fun k => .inr (.inl k)) (fun k => .inr (.inr k))
      obtain ⟨w', r, q⟩ := hl i y v e1 e2 hvis
      obtain ⟨c2, h2⟩ := look k
      refine ⟨w', r, .inr ⟨.inr k, c2, h2, ?_⟩⟩
      have c1 := cm h2
      rcases q with ⟨k', _⟩ | ⟨_, c3, e', z⟩
      · have k' : X.env.scope.names.lookup y = some .local := k'
        rcases L.free _ (PySem.mem_of_lookup k) rfl with k2 | k2 <;> rw [show X.env.scope.names.lookup y = _ from k2] at k' <;> cases k'
      · rw [c1] at e'
        cases e'
        exact cellK (I.freeC y _ c1) z
  · obtain ⟨w', z⟩ := I.cell y c (cm e)
    exact ⟨w', cellK (I.freeC y c (cm e)) z⟩
  · obtain ⟨v, o, ho, hd⟩ := I.cell y c (cm e)
    exact un.free c o ho (I.freeC y c (cm e)) (by simp)
/-- x(), in the def that got the lambda: Z is that def's context, entered at s -/
theorem pe_act {CXg : CXT} {Eg : XK} {Ng : List Str} {qg : Str} {sg : Scope} {g f c' : Addr} {cdg pm ctv : Value} {params : Arguments} {body : Expr} {scope : Scope} {k i : Nat} {a : Str} {pn : List (Addr × Obj)} {xe : Value → Shared → Prop} {W : WX} {E : XK} {tb : TE} {p1 p2 : Pos}
    (I : Inv X pins σ H s) (L : LamS X.env.scope scope) (hf : s.heap.get? f = some (PySem.W.kla_obj "<lambda>" (X.env.qual ++ "<lambda>") params body scope (cloFrom X.env.cells scope.names []) pm c' ctv)) (hfn : H f = none) (hfr : f ∉ frs X.stack)
    (hbind : bindArgs (PySem.W.kla_fn "<lambda>" (X.env.qual ++ "<lambda>") params body scope (cloFrom X.env.cells scope.names []) pm (.ref c') ctv) ⟨[], []⟩ = pure [])
    (tk : L2N.Takes ((cxOf CXg X.prog X.w X.K X.mg X.base Ng qg sg g cdg X.A X.stack s H Eg).tr pn xe) W) (hW : ∀ cls d (σ' : L2.St) H', σ'.length = Ng.length → E cls d H' → W cls d σ' H') (hr : Room (k + 1) (X.A.deeper (envOfC qg sg s.heap.objs.size g cdg)))
    (hbody : ∀ (A : Around) (outer : List Env) (s : Shared) (H : Hp), Room k (A.deeper (lamEnv X scope s.heap.objs.size f c')) → PE (lamCx X A outer s H E scope f c') body tb)
    (hN : Ng[i]? = some a) (hv : Vis sg a) (hd : (a == ("__debug__" : Str)) = false := by decide) (hcd : (a == ("__classdict__" : Str)) = false := by decide) :
    PE ((cxOf CXg X.prog X.w X.K X.mg X.base Ng qg sg g cdg X.A X.stack s H Eg).tr pn xe) (.Call (.Name a p1) [] [] p2)
      (fun σZ HZ Q => σZ[i]? = some (some (.ref f)) ∧ HZ c' = some (CodeO c' (X.env.qual ++ "<lambda>")) ∧ tb σ HZ Q) := by
  refine ⟨fun pinsZ sZ σZ HZ Q IZ h => ?_⟩
  obtain ⟨hs, hc, ht⟩ := h
  refine wpAny_Call_Name_kw (thn ((pe_var (pos := p1) (i := i) hN hv hd hcd).run pinsZ sZ σZ HZ (fun v H1 => v = .ref f ∧ H1 = HZ) IZ ⟨.ref f, hs, rfl, rfl⟩) fun u s1 ⟨v, H1, I1, r1, q1⟩ => ?_)
  obtain ⟨ev, eH⟩ := q1
  subst ev
  rw [eH] at I1
  obtain rfl : u = Value.ref f := r1
  have of1 : s1.heap.get? f = some (PySem.W.kla_obj "<lambda>" (X.env.qual ++ "<lambda>") params body scope (cloFrom X.env.cells scope.names []) pm c' ctv) := I1.base.keep f _ hf hfn hfr (fun z => nomatch (show f ∈ ([] : List Addr) from z))
  refine PySem.W.callWith_F0 ⟨_, _, _, _, of1⟩ ?_
  have un : Un (frs X.stack) [] H HZ s.heap s1.heap := I1.base
  obtain ⟨⟨oc, vs, t, hoc, hdc, hvc⟩, _, _⟩ := I1.hok c' _ hc
  have rc : codeAny (model X.prog X.w) (X.A.deeper (envOfC qg sg s.heap.objs.size g cdg)) (.call (.ref f) ⟨[], []⟩) (CR (L2N.CX X.prog X.w) (envOfC qg sg s.heap.objs.size g cdg :: X.stack) X.prog X.w HZ s1 Q E) s1 := by
    refine PySem.W.kla_callFunE hr.depth of1 rfl L.co L.gen rfl ⟨c', oc, vs, t, rfl, hoc, hdc, hvc⟩ ?_
    rw [hbind]
    refine wpAny_pure (wpAny_newFunctionEnv (fun y hy => (L.own y hy).2) (fun y hy => absurd hy (by simp)) (fun h₁ hns hsb => ⟨I1.nolimit.fresh _ hsb, ?_⟩) L.kind)
    show codeAny _ _ (.expr body (lamEnv X scope s1.heap.objs.size f c')) _ _
    have kp : ∀ b o, s1.heap.get? b = some o → h₁.get? b = some o := fun b o e => hsb.extBut b o (Nat.ne_of_lt (Heap.lt_size e)) (Heap.get?_push_of_some _ e)
    have J : Inv (lamCx X (X.A.deeper (envOfC qg sg s.heap.objs.size g cdg)) (envOfC qg sg s.heap.objs.size g cdg :: X.stack) s1 HZ E scope f c') [] σ HZ { s1 with heap := h₁, toks := s1.toks + ([] : List (Str × Value)).length } :=
      lam_start2 I L I1.env0 hr.hd un hns kp
    refine PySem.W.kla_codeExpr (wpAny_mono ((hbody _ _ s1 HZ (hr.deeper _)).run [] _ _ HZ Q J ht) (fun v s' hq => ?_) fun e s' hq => hq)
    obtain ⟨w', H', J', rv, q⟩ := hq
    exact ⟨w', H', J'.os, J'.bare, J'.base, J'.hok, rv, q⟩
  have hx : Passes (L2N.CX X.prog X.w) ((cxOf CXg X.prog X.w X.K X.mg X.base Ng qg sg g cdg X.A X.stack s H Eg).tr pn xe) E := fun pins σ H s e s' I c => tk e s' (L2N.XE.of_call I (fun cls d H' h => hW cls d σ H' I.len h) c)
  refine wpAny_call (codeAny_mono rc fun r s' hq => ?_)
  cases r with
  | error e => exact hx pinsZ σZ HZ s1 e s' I1 hq
  | ok fl =>
    cases fl with
    | ret u => exact I1.after hq
    | next => exact False.elim hq
    | brk => exact False.elim hq
    | cont => exact False.elim hq
end
/-- the def that calls what it got: a calls it; TT: what it makes of the lambda's reading -/
def GivesTo (X : Cx) (Ng : List Str) (x : Str) (sg : Scope) (g : Addr) (cdg : Value) (bg : List Stmt) (a : Str) (q : Str) (TT : (XK → Hp → VK → Prop) → Hp → VK → Prop) : Prop :=
  ∀ (f c' : Addr) (s : Shared) (H : Hp) (Q : VK) (tl : XK → Hp → VK → Prop),
    (∀ (W : WX) (pn : List (Addr × Obj)) (xe : Value → Shared → Prop) (E : XK) (p1 p2 : Pos), L2N.Takes ((cxOf C8.CX0 X.prog X.w X.K X.mg X.base Ng x sg g cdg X.A X.stack s H C8.E0).tr pn xe) W → (∀ cls d (σ' : L2.St) H', σ'.length = Ng.length → E cls d H' → W cls d σ' H') →
      PE ((cxOf C8.CX0 X.prog X.w X.K X.mg X.base Ng x sg g cdg X.A X.stack s H C8.E0).tr pn xe) (.Call (.Name a p1) [] [] p2) (fun σZ HZ Q => σZ[0]? = some (some (.ref f)) ∧ HZ c' = some (CodeO c' q) ∧ tl E HZ Q)) →
    H c' = some (CodeO c' q) → TT tl H Q →
    ∃ t, PSs (cxOf C8.CX0 X.prog X.w X.K X.mg X.base Ng x sg g cdg X.A X.stack s H C8.E0).nox bg t ∧ t { nx := fun _ H' => Q .non H', rt := Q } (L2.start Ng [.ref f]) H
def tLam (T : List (Addr × Str)) (TT : (XK → Hp → VK → Prop) → Hp → VK → Prop) (t : XK → TE) : TE := fun σ H Q => Tabs T H ∧ ∀ H1, ExtN H H1 → Tabs T H1 → TT (fun E H' Q' => t E σ H' Q') H1 Q
section
variable {X : Cx}
/-- x(lambda: body) -/
theorem pe_lamcall {T : List (Addr × Str)} {TT : (XK → Hp → VK → Prop) → Hp → VK → Prop} {x a : Str} {g c P : Addr} {k : Nat} {pg : Arguments} {bg : List Stmt} {sg : Scope} {dV kV doc pm cdv ct oc : Value} {an od : Option Addr} {osl : Array (Option Value)} {Ng : List Str}
    {params : Arguments} {body : Expr} {scope : Scope} {t : XK → TE} {p lpos pos : Pos} (hg : Gl X x) (hm : X.mg x = some (.ref g)) (hk : PySem.W.keepIn X.K (.ref g) = true)
    (lk : X.K.lookup g = some ⟨oc, od, .func (PySem.W.fnOf x x pg bg sg dV kV doc pm an cdv ct), osl⟩) (hcg : PySem.W.codeIn X.K cdv x = true) (hb : L2.Binds X.K (PySem.W.fnOf x x pg bg sg dV kV doc pm an cdv ct) [a] []) (Sg : FnScope Ng [a] sg) (hNg : Ng[0]? = some a) (hva : Vis sg a)
    (hG : GivesTo X Ng x sg g cdv bg a (X.env.qual ++ "<lambda>") TT)
    (TB : TabB X.base X.mg c P) (hcode : X.env.code = .ref c) (hmT : (P, X.env.qual ++ "<lambda>") ∈ T) (hu : ∀ p ∈ T, p.1 = P → p.2 = X.env.qual ++ "<lambda>") (hr : Room (k + 2) X.A) (L : LamS X.env.scope scope) (hdef : defaultsOf params X.env = ([], []))
    (hbind : ∀ (q : Str) (cl : List (Str × Addr)) (pm cv ctv : Value), bindArgs (PySem.W.kla_fn "<lambda>" q params body scope cl pm cv ctv) ⟨[], []⟩ = pure [])
    (hbody : ∀ (A : Around) (outer : List Env) (s : Shared) (H : Hp) (E : XK) (f c' : Addr), Room k (A.deeper (lamEnv X scope s.heap.objs.size f c')) → PE (lamCx X A outer s H E scope f c') body (t E))
    (hdb : (x == ("__debug__" : Str)) = false := by decide) (hd : (a == ("__debug__" : Str)) = false := by decide) (hcd : (a == ("__classdict__" : Str)) = false := by decide) :
    PE X (.Call (.Name x p) [.Lambda params body scope lpos] [] pos) (tLam T TT t) := by
  refine ⟨fun pins s σ H Q I h => ?_⟩
  obtain ⟨hT, h⟩ := h
  refine wpAny_Call_Name_kw (ld_glob I hg hm ?_ hdb)
  refine PySem.W.callWith_K (h₀ := X.base) I.ok.mod.kin hk ?_ (by rfl) (by rfl)
  show wpAny _ _ (spliced ((false, eval (.Lambda params body scope lpos) X.env) :: backTo pos (starEach [] X.env))) _ _ s
  refine Calls.spliced_cons (lam_make2 I TB hcode hmT hu hT hdef (L.has I.ok) fun f c' pm' ctv H1 s' I1 eN T1 hf hfn hfr hco => ?_)
  refine Calls.spliced_nil ⟨I1.kIn, ?_⟩
  have rc : codeAny (model X.prog X.w) X.A (.call (.ref g) ⟨[.ref f], []⟩) (CR C8.CX0 X.stack X.prog X.w H1 s' Q C8.E0) s' := by
    refine run_ofS (N := Ng) (ps := [a]) (us := [.ref f]) (vs := [.ref f]) lk hcg Sg hr I1.env0 (hb s' [.ref f] I1.kIn rfl) (.cons rfl .nil) rfl fun hr' => ?_
    obtain ⟨t', ht', hq'⟩ := hG f c' s' H1 Q (fun E H' Q' => t E σ H' Q') (fun W pn xe E p1 p2 tk hW => pe_act (i := 0) I1 L hf hfn hfr (hbind _ _ _ _ _) tk hW hr' (fun A outer s H hr2 => hbody A outer s H E f c' hr2) hNg hva hd hcd) hco (h H1 eN T1)
    exact ⟨t', ht'.nox, hq'⟩
  refine wpAny_call (codeAny_mono rc fun r s2 hq => ?_)
  cases r with
  | error e => exact (show False from hq).elim
  | ok fl =>
    cases fl with
    | ret u => exact I1.after hq
    | next => exact False.elim hq
    | brk => exact False.elim hq
    | cont => exact False.elim hq
end
end LamN
/-! ### part PH7 -/
namespace PL
open PySem PySem.Spec PyProof.Rows L2 HotX L2H HotZ LamX LamN

/-- a def that is called within an except suite with the exception, of the class D0; it answers t -/
def FnE (P : Program) (w : World) (K : PySem.W.Frag) (mg : Str → Option Value) (base : Heap) (k : Nat) (f : Addr) (D0 : Addr) (t : Str) : Prop :=
  ∀ (A : Around) (outer : List Env) (s : Shared) (H : Hp) (Q : VK) (E : XK) (p : Addr × Obj), RoomH k A → Hot1 A p → PinOk outer H s p → Env0 P w K mg base A outer s H → L2N.Zn (.ref D0) none p.2 → (∀ H', Same H H' → Q (.str t) H') →
    codeAny (model P w) A (.call (.ref f) ⟨[.ref p.1], []⟩) (CR C8.CX0 outer P w H s Q E) s
/-- the context of its body -/
abbrev cxE (P : Program) (w : World) (K : PySem.W.Frag) (mg : Str → Option Value) (base : Heap) (N : List Str) (x : Str) (st : Stmt) (f : Addr) (cdv : Value) (A : Around) (outer : List Env) (s : Shared) (H : Hp) (E : XK) (p : Addr × Obj) : Cx := cxH C8.CX0 P w K mg base N x (defScope st) f cdv A outer s H E p
theorem hot_in {X : Cx} {p : Addr × Obj} (h : Hot1 X.A p) (hp : p ∈ X.pn) : ∀ pins σ H s, Inv X pins σ H s → HotAt X.A p.1 s.heap ∧ H p.1 = none ∧ p.1 ∉ frs X.stack := fun pins σ H s I => by
  obtain ⟨hh, v1, e1, c1⟩ := h
  have P1 := I.pin p (List.mem_append_left _ hp)
  exact ⟨⟨hh, p.2, v1, P1.1, e1, c1⟩, P1.2.1, fun hm => (List.mem_cons.mp (I.stkSub p.1 hm)).elim P1.2.2.1 P1.2.2.2.1⟩
section
variable {P : Program} {w : World} {K : PySem.W.Frag} {mg : Str → Option Value} {base : Heap} {x : Str} {st : Stmt} {f : Addr} {fd : FuncData} {N : List Str} {k : Nat}
theorem fnE_of {D0 : Addr} {t : Str} {en : Str} {g : Addr → Rho → Option Fl} (F : Fun K x x st f fd) (S : FnScope N [en] (defScope st)) (hb : ∀ (kV doc pm : Value) (an : Option Addr) (cdv ct u : Value), bindArgs (PySem.W.fnOf x x (defArgs st) (defBody st) (defScope st) .none kV doc pm an cdv ct) ⟨[u], []⟩ = pure [(en, u)])
    (h : ∀ (cdv : Value) (A : Around) (outer : List Env) (s : Shared) (H : Hp) (E : XK) (p : Addr × Obj), Hot1 A p → L2N.Zn (.ref D0) none p.2 → RoomH k (A.deeper (envOfC x (defScope st) s.heap.objs.size f cdv)) → SEs (cxE P w K mg base N x st f cdv A outer s H E p) H (defBody st) (g p.1))
    (hg : ∀ a, g a (some (.adr a) :: List.replicate (N.length - 1) none) = some (.rt (.str t))) : FnE P w K mg base (k + 1) f D0 t := by
  obtain ⟨oc, od, kV, doc, pm, an, cdv, ct, osl, rfl, lk, hcd⟩ := F.ex
  intro A outer s H Q E p hr hot hpin e0 hz hq
  have KX : K.In s.heap := e0.mod.kin.keeps fun b o e => (e0.bs b o e).1
  have lim : s.heap.NoLimit := e0.mod.nolimit.keeps fun b o e => (e0.bs b o e).1
  have hkind : ∀ y ∈ [en].zip [Value.ref p.1], (defScope st).names.lookup y.1 = some .local ∨ ((defScope st).names.lookup y.1 = some .cell ∧ ((cellsFrom (s.heap.objs.size + 1) (defScope st).names []).lookup y.1).isSome = true) := fun ⟨n, v⟩ hy => by
    rcases S.par n (List.of_mem_zip hy).1 with q | q
    · exact .inl q
    · exact .inr ⟨q, PySem.W.cellsFrom_some _ _ _ (.inl q)⟩
  refine codeAny_call_function hr.depth (KX _ _ lk) rfl S.co S.gen rfl (PySem.W.codeRec_of KX hcd) ?_
  rw [hb kV doc pm an cdv ct (.ref p.1)]
  refine wpAny_pure ?_
  refine wpAny_newFunctionEnv_cells S.kind hkind fun env he s1 xc => ?_
  subst he
  refine ⟨lim.keeps xc.toInCall.keep, codeAny_func ?_⟩
  have hN : 1 ≤ N.length := by have := congrArg List.length S.pre; rw [List.length_take] at this; simp at this; omega
  have r0 : Vals [V.ref p.1] [Value.ref p.1] := .cons rfl .nil
  have I : Inv (cxE P w K mg base N x st f cdv A outer s H E p) [] (L2.start N [V.ref p.1]) H s1 := inv_startH S hpin e0 rfl r0 xc
  have rl : RepL K H [D.adr p.1] [V.ref p.1] := RepL.one (by simp only [RepF])
  have er := ers_start (N := N) rl
  refine wpAny_mono ((h cdv A outer s H E p hot hz (hr.deeper _)).run [] s1 (L2.start N [V.ref p.1]) H { nx := fun _ H' => False, rt := fun v H' => v = .str t ∧ Same H H' } I ⟨_, _, er, hg p.1, fun v H' sm r => ⟨?_, sm⟩⟩) (fun fl s' hs => ?_) fun e s' hs => hs
  · have r : RepF K H' (.str t) v := r
    simpa only [RepF] using r
  · cases fl with
    | ret u =>
      obtain ⟨v, σ', H', J, rv, ev, sm⟩ := hs
      subst ev
      exact ⟨_, H', J.os, J.bare, J.base, J.hok, rv, hq H' sm⟩
    | next => obtain ⟨_, _, _, q⟩ := hs; exact q.elim
    | brk => obtain ⟨_, _, _, q⟩ := hs; exact q.elim
    | cont => obtain ⟨_, _, _, q⟩ := hs; exact q.elim
end
/-- x(e) within the suite that holds e -/
theorem pe_callE {X : Cx} {a : Addr} {oe : Obj} {pn : List (Addr × Obj)} {k i : Nat} {f : Addr} {x en : Str} {q p1 pos : Pos} {tab : Addr → Option Str} {cls : Value} {d : Option Addr} (hE : ∀ C t, tab C = some t → FnE X.prog X.w X.K X.mg X.base k f C t) (hr : RoomH k X.A) (hz : L2N.Zn cls d oe) (hf : ∃ vs, oe.data = .fields vs)
    (hg : Gl X x) (hm : X.mg x = some (.ref f)) (hk : PySem.W.keepIn X.K (.ref f) = true) (hN : X.N[i]? = some en) (hv : Vis X.env.scope en) (hd : (en == ("__debug__" : Str)) = false := by decide) (hcd : (en == ("__classdict__" : Str)) = false := by decide) (hdb : (x == ("__debug__" : Str)) = false := by decide)
    (he : starEach [.Name en p1] X.env = (false, eval (.Name en p1) X.env) :: starEach [] X.env := by rfl) (hpl : (backTo pos (starEach [] X.env)).any (·.1) = false := by rfl) :
    PE (X.suite a ((a, oe) :: pn)) (.Call (.Name x q) [.Name en p1] [] pos) (fun σ H Q => ∃ C t, cls = .ref C ∧ d = none ∧ tab C = some t ∧ σ[i]? = some (some (.ref a)) ∧ ∀ H', Same H H' → Q (.str t) H') := by
  refine ⟨fun pins s σ H Q I ⟨C, t, e1, e2, ht, hs, hq⟩ => ?_⟩
  subst e1 e2
  have hot : Hot1 (X.suite a ((a, oe) :: pn)).A (a, oe) := by
    obtain ⟨vs, hv⟩ := hf
    exact ⟨rfl, vs, hv, hz.2.2 vs hv⟩
  have ha : PA (X.suite a ((a, oe) :: pn)) [.Name en p1] (L2.tCons (tVar i) L2.tNil) := pa_cons (pe_var hN hv hd hcd) pa_nil he
  refine wpAny_Call_Name_kw (ld_glob (X := X.suite a ((a, oe) :: pn)) I hg hm ?_ hdb)
  refine PySem.W.callWith_K (h₀ := X.base) I.ok.mod.kin hk (thn (ha.run pos pins s σ H (fun vs H1 => vs = [.ref a] ∧ H1 = H) I ⟨_, hs, rfl, rfl⟩) fun us s1 ⟨vs, H1, I1, r, e3, e4⟩ => ⟨I1.kIn, ?_⟩) he hpl
  subst e3 e4
  cases r with
  | cons r rr =>
    cases rr
    cases r
    have P1 := I1.pin (a, oe) (List.mem_append_left _ List.mem_cons_self)
    have hpin : PinOk (X.suite a ((a, oe) :: pn)).stack H1 s1 (a, oe) := ⟨P1.1, P1.2.1, fun hm => (List.mem_cons.mp (I1.stkSub a hm)).elim P1.2.2.1 P1.2.2.2.1, P1.2.2.2.2⟩
    refine wpAny_call (codeAny_mono (hE C t ht _ _ s1 H1 Q C8.E0 (a, oe) ⟨hr.dp, hr.un⟩ hot hpin I1.env0 hz hq) fun r s' hq' => ?_)
    cases r with
    | error e => exact (show False from hq').elim
    | ok fl =>
      cases fl with
      | ret u => exact I1.after hq'
      | next => exact False.elim hq'
      | brk => exact False.elim hq'
      | cont => exact False.elim hq'

/-! ### told -/
def TTold (tab : Addr → Option Str) : (XK → Hp → VK → Prop) → Hp → VK → Prop := fun tl H Q =>
  tl (fun cls d H' => ∃ C t, cls = .ref C ∧ d = none ∧ tab C = some t ∧ ∀ H2 p, Same H' H2 → H2 p = none → Q (.ref p) (upd H2 p (.tup [.non, .str t]))) H (fun v H' => ([v, .str ""] : List V).length ≤ sizeLine ∧ ∀ p, H' p = none → Q (.ref p) (upd H' p (.tup [v, .str ""])))
end PL
/-! ### part PH8 -/
namespace PL
open PySem PySem.Spec PyProof.Rows L2 HotX L2H HotZ LamX LamN

theorem takes0N {X : Cx} : L2N.Takes X (fun _ _ _ _ => False) := fun _ _ x => by
  obtain ⟨_, _, _, _, _, _, _, _, _, _, _, _, _, _, _, _, z⟩ := x
  exact z.elim
theorem two_le {α : Type} {x y : α} : [x, y].length ≤ sizeLine := by rw [sizeLine_eq]; show 2 ≤ 16777216; omega
section
variable {X : Cx}
/-- try: return (call(), "") / except PageError as e: return (None, error(e)) -/
theorem told_givesN {tab : Addr → Option Str} {Ng : List Str} {x a pe en ex q : Str} {sg : Scope} {g CS fe : Addr} {cdg : Value} {k j j2 : Nat} {k3 k4 : _} {p1 p2 p3 p4 p5 p6 p7 q1 q2 q3 q4 q5 q6 q7 : Pos} (hge : sg.names.lookup pe = some .globalImplicit) (hme : X.mg pe = some (.ref CS)) (hde : (pe == ("__debug__" : Str)) = false)
    (h0 : ∀ f : Addr, (L2.start Ng [V.ref f])[0]? = some (some (V.ref f))) (hNd : Ng.Nodup) (hN1 : Ng[1]? = some en) (hln : sg.names.lookup en = some .local) (hex : sg.names.lookup ex = some .globalImplicit) (hmx : X.mg ex = some (.ref fe)) (hkx : PySem.W.keepIn X.K (.ref fe) = true) (hdx : (ex == ("__debug__" : Str)) = false)
    (hdn : (en == ("__debug__" : Str)) = false) (hcn : (en == ("__classdict__" : Str)) = false) (hr : Room (k + 1) X.A) (hE : ∀ C t, tab C = some t → FnE X.prog X.w X.K X.mg X.base k fe C t) (hx : ∀ C t, tab C = some t → PySem.W.exmOne X.K (.ref C) (.ref CS) = some true) :
    LamN.GivesTo X Ng x sg g cdg [.Try [.Return (some (.Tuple [.Call (.Name a p1) [] [] p2, .Constant (.str "") j p3] k3 p4)) p5] [.ExceptHandler (some (.Name pe p6)) (some en) [.Return (some (.Tuple [.Constant .none j2 p7, .Call (.Name ex q1) [.Name en q2] [] q3] k4 q4)) q5] q6] [] [] q7] a q (TTold tab) := by
  intro f c' s H Q tl act hc h
  have hgl : Gl (cxOf C8.CX0 X.prog X.w X.K X.mg X.base Ng x sg g cdg X.A X.stack s H C8.E0).nox pe := hge
  have hgx : Gl (cxOf C8.CX0 X.prog X.w X.K X.mg X.base Ng x sg g cdg X.A X.stack s H C8.E0).nox ex := hex
  have hrD := roomH_of (hr.deeper (envOfC x sg s.heap.objs.size g cdg))
  refine ⟨_, pss_one (L2N.ps_try_as (X := (cxOf C8.CX0 X.prog X.w X.K X.mg X.base Ng x sg g cdg X.A X.stack s H C8.E0).nox) (c := .ref CS) (i := 1) (n := en)
      (tb := fun W D σ H => ∃ Ech : XK, (∀ cls d (σ' : L2.St) H', σ'.length = Ng.length → Ech cls d H' → W cls d σ' H') ∧ σ[0]? = some (some (.ref f)) ∧ H c' = some (CodeO c' q) ∧ tl Ech H fun v H' => ([v, .str ""] : List V).length ≤ sizeLine ∧ ∀ p, H' p = none → D.rt (.ref p) (upd H' p (.tup [v, .str ""])))
      (ts := fun a cls d D σ H => ∃ C t, cls = .ref C ∧ d = none ∧ tab C = some t ∧ σ[1]? = some (some (.ref a)) ∧ ∀ H2 p, Same H H2 → H2 p = none → D.rt (.ref p) (upd H2 p (.tup [.non, .str t])))
      rfl rfl hNd hN1 hln ⟨hgl, hde, .inl hme⟩ takes0N (fun W pn xe tk _ => ?_) (fun a oe cls d pn hz hf => ?_)), ?_⟩
  · refine ⟨fun pins s' σ H' D I h' => ?_⟩
    obtain ⟨Ech, hW, h1, h2, h3⟩ := h'
    have hp := act W pn xe Ech p1 p2 tk hW
    have hq := pss_one (ps_ret (pos := p5) (pe_tup (x1 := k3) (pos := p4) (pa_cons hp (pa_cons (pe_str (j := j) (pos := p3) (x := "")) pa_nil))))
    exact hq.run pins s' σ H' D I ⟨h1, h2, (h3 : _)⟩
  · have hcall := pe_callE (X := (cxOf C8.CX0 X.prog X.w X.K X.mg X.base Ng x sg g cdg X.A X.stack s H C8.E0).nox) (a := a) (pn := pn) (i := 1) (x := ex) (en := en) (q := q1) (p1 := q2) (pos := q3) hE ⟨hrD.dp, hrD.un⟩ hz hf hgx hmx hkx hN1 (.inl hln) hdn hcn hdx
    have hq := pss_one (ps_ret (pos := q5) (pe_tup (x1 := k4) (pos := q4) (pa_cons (pe_non (j := j2) (pos := p7)) (pa_cons hcall pa_nil))))
    refine ⟨fun pins s' σ H' D I h' => hq.run pins s' σ H' D I ?_⟩
    obtain ⟨C, t, e1, e2, e3, e4, e5⟩ := h'
    exact ⟨C, t, e1, e2, e3, e4, fun H2 sm => ⟨two_le, fun p hp => e5 H2 p sm hp⟩⟩
  · refine ⟨fun cls d H' => ∃ C t, cls = .ref C ∧ d = none ∧ tab C = some t ∧ ∀ H2 p, Same H' H2 → H2 p = none → Q (.ref p) (upd H2 p (.tup [.non, .str t])), fun cls d σ' H' hl hh => ?_, h0 f, hc, h⟩
    obtain ⟨C, t, e1, e2, e3, e4⟩ := hh
    refine ⟨true, by rw [e1]; exact hx C t e3, fun _ a ha => ?_, fun z => nomatch z⟩
    exact ⟨C, t, e1, e2, e3, List.getElem?_set_self (by rw [hl]; exact (List.getElem?_eq_some_iff.mp hN1).1), e4⟩
/-- told(lambda: body) -/
def zTold (tab : Addr → Option Str) (fb : Rho → Option Eo) : Rho → Option Eo := fun ρ => (fb ρ).bind fun r => match r with
  | .ok d ρ1 => some (.ok (.tup [d, .str ""]) ρ1)
  | .ex C ρ1 => (tab C).map fun t => .ok (.tup [.non, .str t]) ρ1
variable {T : List (Addr × Str)} {H0 : Hp} {EX : XK}
theorem ze_told {tab : Addr → Option Str} {fb : Rho → Option Eo} {x a : Str} {g c P : Addr} {k : Nat} {pg : Arguments} {bg : List Stmt} {sg : Scope} {dV kV doc pm cdv ct oc : Value} {an od : Option Addr} {osl : Array (Option Value)} {Ng : List Str}
    {params : Arguments} {body : Expr} {scope : Scope} {p lpos pos : Pos} (hg : Gl X x) (hm : X.mg x = some (.ref g)) (hk : PySem.W.keepIn X.K (.ref g) = true)
    (lk : X.K.lookup g = some ⟨oc, od, .func (PySem.W.fnOf x x pg bg sg dV kV doc pm an cdv ct), osl⟩) (hcg : PySem.W.codeIn X.K cdv x = true) (hb : L2.Binds X.K (PySem.W.fnOf x x pg bg sg dV kV doc pm an cdv ct) [a] []) (Sg : FnScope Ng [a] sg) (hNg : Ng[0]? = some a) (hva : Vis sg a)
    (hG : LamN.GivesTo X Ng x sg g cdv bg a (X.env.qual ++ "<lambda>") (TTold tab))
    (TB : TabB X.base X.mg c P) (hcode : X.env.code = .ref c) (hmT : (P, X.env.qual ++ "<lambda>") ∈ T) (hu : ∀ p ∈ T, p.1 = P → p.2 = X.env.qual ++ "<lambda>") (hr : Room (k + 2) X.A) (L : LamS X.env.scope scope) (hdef : defaultsOf params X.env = ([], []))
    (hbind : ∀ (q : Str) (cl : List (Str × Addr)) (pm cv ctv : Value), bindArgs (PySem.W.kla_fn "<lambda>" q params body scope cl pm cv ctv) ⟨[], []⟩ = pure [])
    (hbody : ∀ (A : Around) (outer : List Env) (s : Shared) (H : Hp) (E : XK) (f c' : Addr), Room k (A.deeper (lamEnv X scope s.heap.objs.size f c')) → ZE (LamN.lamCx X A outer s H E scope f c') T H0 E body fb)
    (hdb : (x == ("__debug__" : Str)) = false := by decide) (hd : (a == ("__debug__" : Str)) = false := by decide) (hcd : (a == ("__classdict__" : Str)) = false := by decide) :
    ZE X T H0 EX (.Call (.Name x p) [.Lambda params body scope lpos] [] pos) (zTold tab fb) := by
  have nT : T ≠ [] := fun z => by rw [z] at hmT; cases hmT
  refine PE.weak (LamN.pe_lamcall (t := fun E => tZ X.K T H0 E fb) hg hm hk lk hcg hb Sg hNg hva hG TB hcode hmT hu hr L hdef hbind hbody hdb hd hcd) fun σ H Q ⟨ρ, r, er, hf, kk⟩ => ?_
  refine ⟨er.tabs, fun H1 eN t1 => ?_⟩
  have ext : Ext H H1 := ⟨fun a xs z => eN a _ z (fun ps y => by cases y), fun a o u z => eN a _ z (fun ps y => by cases y)⟩
  obtain ⟨r1, h1, h2⟩ := Option.bind_eq_some_iff.mp hf
  refine ⟨ρ, r1, er.lam eN t1 nT, h1, ?_⟩
  have fin : ∀ {H' H2 : Hp} {ρ1 : Rho} {d : D} {v : V} {t : Str} {p : Addr}, EoK X.K T H0 EX H σ Q (.ok (.tup [d, .str t]) ρ1) → Ext H1 H' → RO T X.K H0 H' σ ρ1 → Same H' H2 → RepF X.K H2 d v → H2 p = none → Q (.ref p) (upd H2 p (.tup [v, .str t])) := fun {H' H2 ρ1 d v t p} kk e1 er1 sm rv np => by
    have s2 := same_new (o := .tup [v, .str t]) np
    exact kk (.ref p) _ (((ext.trans e1).trans (Ext.of sm)).trans (Ext.of s2)) ((er1.same sm).same s2) (repF_tup (.of upd_same) (RepL.cons (rv.ext (Ext.of s2)) (RepL.one repF_str)))
  cases r1 with
  | ok d ρ1 =>
    cases h2
    exact fun v H' e1 er1 rv => ⟨two_le, fun p np => fin kk e1 er1 (Same.refl _) rv np⟩
  | ex C ρ1 =>
    obtain ⟨t, h3, rfl⟩ := Option.map_eq_some_iff.mp h2
    exact fun H' e1 er1 => ⟨C, t, rfl, rfl, h3, fun H2 p sm np => fin kk e1 er1 sm repF_non np⟩
end
end PL
/-! ### part PO11 -/
namespace PL
open PySem PySem.Spec PyProof.Rows L2 SupX

/-! ### what a body's mirror does, wherever its object lies -/
theorem MoOf.inj {a C : Addr} {fo : Fo} {r r' : Mo} (h : MoOf a C fo r) (h' : MoOf a C fo r') : r = r' := by
  cases fo <;> cases r <;> cases r' <;> first | exact h.elim | exact h'.elim | skip
  · obtain ⟨rfl, h1⟩ := h; obtain ⟨rfl, h2⟩ := h'
    rw [h1] at h2; cases h2; rfl
  · obtain ⟨⟨rfl, _⟩, h1⟩ := h; obtain ⟨⟨rfl, _⟩, h2⟩ := h'
    rw [h1] at h2; cases h2; rfl
  · obtain ⟨rfl, h1⟩ := h; obtain ⟨rfl, h2⟩ := h'
    rw [h1] at h2; cases h2; rfl
/-- the mirror g, run at the slots q, does r -/
def Does (C : Addr) (g : Rho → Option Fo) (q : Addr → Rho) (r : Mo) : Prop := ∀ a, ∃ fo, g (q a) = some fo ∧ MoOf a C fo r
open Classical in
noncomputable def doF (C : Addr) (g : Rho → Option Fo) (q : Addr → Rho) : Option Mo := if h : ∃ r, Does C g q r then some h.choose else none
theorem doF_eq {C : Addr} {g : Rho → Option Fo} {q : Addr → Rho} {r : Mo} (h : Does C g q r) : doF C g q = some r := by
  have hx : ∃ r, Does C g q r := ⟨r, h⟩
  unfold doF
  rw [dif_pos hx]
  obtain ⟨fo, h1, h2⟩ := h 0
  obtain ⟨fo', h3, h4⟩ := hx.choose_spec 0
  rw [h1] at h3; cases h3
  rw [MoOf.inj h4 h2]
theorem doF_does {C : Addr} {g : Rho → Option Fo} {q : Addr → Rho} {r : Mo} (h : doF C g q = some r) : Does C g q r := by
  unfold doF at h
  split at h
  · rename_i hx
    cases h
    exact hx.choose_spec
  · cases h
noncomputable def mF (N : Nat) (C : Addr) (g : Rho → Option Fo) : List D → List D → Option Mo := fun fds args => doF C g fun a => rhoM N a C fds args
noncomputable def iF (N : Nat) (C : Addr) (dd : D) (g : Rho → Option Fo) : List D → Option D → Option Mo := fun args kd => doF C g fun a => rhoM N a C [] [kd.getD dd, .tup args]
noncomputable def sF (N : Nat) (C : Addr) (g : Rho → Option Fo) : List D → D → List D → Option Mo := fun fds d args => doF C g fun a => rhoM N a C fds [d, .tup args]
open Classical in
noncomputable def rF (N : Nat) (C : Addr) (g : Rho → Option Ro) : List D → List D → Option Ro := fun fds args => if h : ∃ r, ∀ a, g (rhoM N a C fds args) = some r then some h.choose else none
theorem rF_eq {N : Nat} {C : Addr} {g : Rho → Option Ro} {fds args : List D} {r : Ro} (h : ∀ a, g (rhoM N a C fds args) = some r) : rF N C g fds args = some r := by
  have hx : ∃ r, ∀ a, g (rhoM N a C fds args) = some r := ⟨r, h⟩
  unfold rF
  rw [dif_pos hx]
  have h1 := hx.choose_spec 0
  rw [h 0] at h1
  exact h1.symm
theorem rF_does {N : Nat} {C : Addr} {g : Rho → Option Ro} {fds args : List D} {r : Ro} (h : rF N C g fds args = some r) : ∀ a, g (rhoM N a C fds args) = some r := by
  unfold rF at h
  split at h
  · rename_i hx
    cases h
    exact hx.choose_spec
  · cases h
section
variable {P : Program} {w : World} {K : PySem.W.Frag} {mg : Str → Option Value} {base : Heap} {x qual : Str} {st : Stmt} {f : Addr} {fd : FuncData} {N ps : List Str} {k n m : Nat} {C : Addr} {g : Rho → Option Fo}
theorem fn_methC (Fu : Fun K x qual st f fd) (S : FnScope N ps (defScope st)) (hm : N.length = m) (hn : ps.length = n + 1) (hN : 1 ≤ m) (hc : OkCls K C)
    (h : ∀ (cdv : Value) (A : Around) (outer : List Env) (s : Shared) (H H0 : Hp) (E : XK), Room k (A.deeper (envOfC qual (defScope st) s.heap.objs.size f cdv)) →
      SOs (cxOf (L2N.CX P w) P w K mg base N qual (defScope st) f cdv A outer s H E) [] H0 E (defBody st) g) : FnOk P w K mg base (L2N.CX P w) (k + 1) f fd ps (spM K C n (mF m C g)) := by
  subst hm
  exact fn_meth (g := fun _ => g) Fu S hn hN hc (fun _ => h) fun a fds args r _ hF => doF_does hF a
theorem fn_readC {g : Rho → Option Ro} (Fu : Fun K x qual st f fd) (S : FnScope N ps (defScope st)) (hm : N.length = m) (hn : ps.length = n + 1) (hN : 1 ≤ m) (hc : OkCls K C)
    (h : ∀ (cdv : Value) (A : Around) (outer : List Env) (s : Shared) (H : Hp) (E : XK), Room k (A.deeper (envOfC qual (defScope st) s.heap.objs.size f cdv)) →
      RS (cxOf (L2N.CX P w) P w K mg base N qual (defScope st) f cdv A outer s H E) E (defBody st) g) : FnOk P w K mg base (L2N.CX P w) (k + 1) f fd ps (spR K C n (rF m C g)) := by
  subst hm
  exact fn_read Fu S hn hN hc h fun a fds args r _ hF => rF_does hF a
variable {name : Str} {params : Arguments} {body : List Stmt} {scope : Scope} {dV kV doc pm cdv ct oc ccl : Value} {an od cod : Option Addr} {osl csl : Array (Option Value)} {cc : Addr} {v0 : Option Value}
theorem fnk_initC {p1 pk pv : Str} {D0 : Addr} {du : Value} {dv : V} {dd : D} (lk : K.lookup f = some ⟨oc, od, .func (PySem.W.fnOf name qual params body scope dV kV doc pm an cdv ct), osl⟩) (hcd : PySem.W.codeIn K cdv qual = true)
    (S : FnScope N [p1, pk, pv] scope) (hm : N.length = m) (hN : 1 ≤ m) (hc : OkCls K C) (B : StarB (PySem.W.fnOf name qual params body scope dV kV doc pm an cdv ct) p1 pk pv D0) (hD : PySem.W.nsIn K D0 pk = some (some du)) (rd : RelV dv du) (hdd : ∀ H, RepF K H dd dv)
    (h : ∀ (A : Around) (outer : List Env) (s : Shared) (H H0 : Hp) (E : XK), Room k (A.deeper (envOfC qual scope s.heap.objs.size f cdv)) → SOs (cxOf (L2N.CX P w) P w K mg base N qual scope f cdv A outer s H E) [] H0 E body g) : FnK P w K mg base (L2N.CX P w) (k + 1) f pk (spI K C (iF m C dd g)) := by
  subst hm
  exact fnk_init (g := fun _ => g) lk hcd S hN hc B hD rd hdd (fun _ => h) fun a args kd r hF => doF_does hF a
theorem fnk_init_supC {p1 pk pv : Str} {D0 : Addr} {du : Value} {dv : V} {dd : D} (lk : K.lookup f = some ⟨oc, od, .func (PySem.W.fnX name qual params body scope [(("__class__" : Str), cc)] dV kV doc pm an cdv ct), osl⟩) (hcd : PySem.W.codeIn K cdv qual = true)
    (hcc : K.lookup cc = some ⟨ccl, cod, .cell v0, csl⟩) (S : SupS N [p1, pk, pv] scope) (hm : N.length = m) (hN : 1 ≤ m) (hc : OkCls K C) (B : StarB (PySem.W.fnX name qual params body scope [(("__class__" : Str), cc)] dV kV doc pm an cdv ct) p1 pk pv D0) (hD : PySem.W.nsIn K D0 pk = some (some du)) (rd : RelV dv du) (hdd : ∀ H, RepF K H dd dv)
    (h : ∀ (A : Around) (outer : List Env) (s : Shared) (H H0 : Hp) (E : XK), Room k (A.deeper (envS qual scope s.heap.objs.size f cdv cc)) → AOs (cxS (L2N.CX P w) P w K mg base N qual scope f cdv cc A outer s H E) [] H0 E body body g) : FnK P w K mg base (L2N.CX P w) (k + 1) f pk (spI K C (iF m C dd g)) := by
  subst hm
  exact fnk_init_sup (g := fun _ => g) lk hcd hcc S hN hc B hD rd hdd (fun _ => h) fun a args kd r hF => doF_does hF a
theorem fnr_supC (lk : K.lookup f = some ⟨oc, od, .func (PySem.W.fnX name qual params body scope [(("__class__" : Str), cc)] dV kV doc pm an cdv ct), osl⟩) (hcd : PySem.W.codeIn K cdv qual = true) (hcc : K.lookup cc = some ⟨ccl, cod, .cell v0, csl⟩)
    (S : SupS N ps scope) (hm : N.length = m) (hN : 1 ≤ m) (hn : ps.length = n + 1) (hc : OkCls K C) (hb : ∀ us : List Value, us.length = ps.length → bindArgs (PySem.W.fnX name qual params body scope [(("__class__" : Str), cc)] dV kV doc pm an cdv ct) ⟨us, []⟩ = pure (ps.zip us))
    (h : ∀ (A : Around) (outer : List Env) (s : Shared) (H H0 : Hp) (E : XK), Room k (A.deeper (envS qual scope s.heap.objs.size f cdv cc)) → AOs (cxS (L2N.CX P w) P w K mg base N qual scope f cdv cc A outer s H E) [] H0 E body body g) : FnR P w K mg base (L2N.CX P w) (k + 1) f (spM K C n (mF m C g)) := by
  subst hm
  exact fnr_sup (g := fun _ => g) lk hcd hcc S hN hn hc hb (fun _ => h) fun a fds args r _ hF => doF_does hF a
theorem fnr_starPC {p1 p2 pv : Str} (lk : K.lookup f = some ⟨oc, od, .func (PySem.W.fnOf name qual params body scope dV kV doc pm an cdv ct), osl⟩) (hcd : PySem.W.codeIn K cdv qual = true)
    (S : FnScope N [p1, p2, pv] scope) (hm : N.length = m) (hN : 1 ≤ m) (hc : OkCls K C) (B : StarP (PySem.W.fnOf name qual params body scope dV kV doc pm an cdv ct) p1 p2 pv)
    (h : ∀ (A : Around) (outer : List Env) (s : Shared) (H H0 : Hp) (E : XK), Room k (A.deeper (envOfC qual scope s.heap.objs.size f cdv)) → SOs (cxOf (L2N.CX P w) P w K mg base N qual scope f cdv A outer s H E) [] H0 E body g) : FnR P w K mg base (L2N.CX P w) (k + 1) f (spMS K C (sF m C g)) := by
  subst hm
  exact fnr_starP (g := fun _ => g) lk hcd S hN hc B (fun _ => h) fun a fds d args r hF => doF_does hF a
end
end PL
/-! ### part PO12 -/
namespace PL
open PySem PySem.Spec PyProof.Rows L2 SupX

/-! ### len of an object -/
def rLenOwn (C : Addr) (sp : Sp) (E : XK) : List V → Hp → VK → Prop := fun xs H Q => ∃ a dx fs, xs = [V.ref a] ∧ H a = some (.ins C dx fs) ∧ sp [.ref a] H (fun z H' => ∃ i : Int, z = .int i ∧ (0 ≤ i ∧ i < 2 ^ 63) ∧ Q z H') E
section
variable {X : Cx} {CX : CXT} {T : List (Addr × Str)} {H0 : Hp} {EX : XK} {k n : Nat} {C g : Addr} {e : Expr} {es : List Expr} {f : Rho → Option D} {fs : Rho → Option (List D)} {p pos : Pos}
theorem call_lenOwn {sp : Sp} {E : XK} (hs : PySem.W.findIn X.K (.ref C) "__len__" = some (some (.ref g))) (hf : PySem.W.isFn X.K (.ref g) = true) (F : FnR X.prog X.w X.K X.mg X.base CX k g sp) (hr : Room (k + 1) X.A) (hx : Passes CX X E) : CallR X (.builtin "len") (rLenOwn C sp E) := by
  intro pins s σ H xs us Q I r h
  obtain ⟨a, dx, fs, rfl, ea, q⟩ := h
  obtain ⟨u, rfl, ru⟩ := r.one
  cases (show u = Value.ref a from ru)
  obtain ⟨mA, O, _, _, _, _⟩ := ins_get I.hok ea
  obtain ⟨od, J, _⟩ := O.look
  obtain ⟨m, hF⟩ := I.fr
  refine PySem.W.len_K hF I.ok.mod.kin J hs hf ?_
  have run : codeAny (model X.prog X.w) X.A.in1 (.call (.ref g) ⟨[.ref a], []⟩) (fun r s' => match r with | .ok (.ret v) => EP X pins σ (fun z H' => ∃ i : Int, z = .int i ∧ (0 ≤ i ∧ i < 2 ^ 63) ∧ Q z H') v s' | .ok _ => False | .error e => X.xe e s') s := by
    refine codeAny_mono (F X.A.in1 X.stack s H [.ref a] [.ref a] _ E hr.in1 I.env0.in1 (.cons rfl .nil) q) fun r s' hq => ?_
    cases r with
    | error e => exact hx pins σ H s e s' I hq
    | ok fl =>
      cases fl with
      | ret u => exact I.after hq
      | next => exact False.elim hq
      | brk => exact False.elim hq
      | cont => exact False.elim hq
  refine wpAny_mono (wpAny_call run) (fun w s' z => ?_) fun _ _ x => x
  obtain ⟨z', H', I', rz, i, ei, hi, qz⟩ := z
  subst ei
  obtain ⟨t, e⟩ := (show ∃ t, w = Value.int i t from rz)
  cases e
  exact ⟨hi, .int i, H', I'.tok (s'.toks + 1), ⟨_, rfl⟩, qz⟩
/-- a reader's answer that len takes -/
def isLen (d : D) : Option D := match d with
  | .int i => if 0 ≤ i ∧ i < 1000000 then some d else none
  | _ => none
def fLenO (C : Addr) (F : List D → List D → Option Ro) (f : Rho → Option D) : Rho → Option D := fun ρ => (fRead C 0 F f fsNil ρ).bind isLen
theorem fe_lenO {F : List D → List D → Option Ro} (hg : Gl X "len") (hm : X.mg "len" = none) (ho : WE X e f) (hs : PySem.W.findIn X.K (.ref C) "__len__" = some (some (.ref g))) (hf : PySem.W.isFn X.K (.ref g) = true) (Fn : FnR X.prog X.w X.K X.mg X.base CX k g (spR X.K C 0 F)) (hr : Room (k + 1) X.A) (hx : Passes CX X EX)
    (he : starEach [e] X.env = (false, eval e X.env) :: starEach [] X.env := by rfl) (hpl : (backTo pos (starEach [] X.env)).any (·.1) = false := by rfl) : FE X (.Call (.Name "len" p) [e] [] pos) (fLenO C F f) :=
  PE.weak (pe_callB (call_lenOwn hs hf Fn hr hx) hg hm (by decide +kernel : bootBuiltins "len" = some (.builtin "len")) (pa_cons ho pa_nil he) (by decide) (by decide) he hpl) fun σ H Q ⟨ρ, d, er, hf', q⟩ => by
    obtain ⟨d0, h0, h1⟩ := Option.bind_eq_some_iff.mp hf'
    obtain ⟨x, h2, h3⟩ := Option.bind_eq_some_iff.mp h0
    obtain ⟨args, h4, h5⟩ := Option.bind_eq_some_iff.mp h3
    cases h4
    refine ⟨ρ, x, er, h2, fun v H1 s1 r1 => ?_⟩
    cases d0 <;> simp only [isLen, reduceCtorEq] at h1
    rename_i i
    split at h1
    · rename_i hi
      cases h1
      obtain ⟨a, dx, us, rfl, hb, hl, hsp⟩ := rd_call (EX := EX) (Q := fun z H' => ∃ i : Int, z = .int i ∧ (0 ≤ i ∧ i < 2 ^ 63) ∧ Q z H') (Same.refl _) r1 .nil h5 (fun v H' s' r' => by
        have r2 := r'
        simp only [RepF] at r'
        subst r'
        exact ⟨i, rfl, by omega, q _ H' (s1.trans s') r2⟩)
      exact ⟨a, dx, us, rfl, hb, hsp⟩
    · cases h1
/-- x(o, ..), a def whose first parameter is an object that it may change -/
theorem ze_callO {F : List D → List D → Option Mo} {x y : Str} {py : Pos} {fd : FuncData} {ps : List Str} (i : Nat) (hN : X.N[i]? = some y) (hv : Vis X.env.scope y) (G : FnOk X.prog X.w X.K X.mg X.base CX k g fd ps (spM X.K C n F)) (hr : Room k X.A) (hx : Passes CX X EX) (hg : Gl X x) (hm : X.mg x = some (.ref g)) (hk : PySem.W.keepIn X.K (.ref g) = true) (hb : Binds X.K fd ps []) (ha : AE X es fs)
    (hd : (y == ("__debug__" : Str)) = false := by decide) (hcd : (y == ("__classdict__" : Str)) = false := by decide) (hdb : (x == ("__debug__" : Str)) = false := by decide)
    (he : starEach (.Name y py :: es) X.env = (false, eval (.Name y py) X.env) :: starEach es X.env := by rfl) (hpl : (backTo pos (starEach es X.env)).any (·.1) = false := by rfl) :
    ZE X T H0 EX (.Call (.Name x p) (.Name y py :: es) [] pos) (zMeth i C n F fs) :=
  PE.weak (pe_call G hr hg hm hk hb .nil hx (pa_cons (pe_var hN hv hd hcd) ha he) hdb he hpl) fun σ H Q ⟨ρ, r, er, hf, kk⟩ => by
    unfold zMeth at hf
    split at hf
    · rename_i o c' ds hi
      split at hf
      · rename_i hC
        subst hC
        obtain ⟨args, h1, h2⟩ := Option.bind_eq_some_iff.mp hf
        split at h2
        · rename_i hl
          obtain ⟨v, hv, a, dx, us, rfl, ho, hc, hl3, hb, hr⟩ := er.slot i _ hi
          refine ⟨_, hv, ρ, args, er.toER, h1, fun vs H1 s1 r1 => ?_⟩
          show spM X.K c' n F ((V.ref a :: vs) ++ []) H1 Q EX
          rw [List.append_nil]
          exact mo_call er s1 hi hv hl r1 h2 kk
        · cases h2
      · cases hf
    · cases hf
end
end PL
/-! ### part PO13 -/
namespace PL
open PySem PySem.Spec PyProof.Rows L2 SupX

section
variable {X : Cx} {a b e : Expr} {fa fb f : Rho → Option D} {pos : Pos}
/-- a dict comprehension as a value, locked -/
theorem fe_dc {kx vx tg iter : Expr} {ifs : List Expr} {scope : Scope} {own : List (Str × Nat)} {b : Bool} {src : Rho → Option (List D)} {is vs : List Nat} {t : Tgt} {c : Rho → Option Bool} {ek ev : Rho → Option D} (hc : X.calm = true) (hN : X.N.Nodup) (hi : IE X tg iter b src) (ok : BlkOk X.N X.env.scope scope own)
    (hg : ∀ (s : Shared) (H : Hp) (C : Addr) (cl : List (Str × Addr)) (fp : List Addr), GE (X.blk s H scope (compEnvC scope cl C X.env) fp) tg is t) (ht : ∀ (s : Shared) (H : Hp) (C : Addr) (cl : List (Str × Addr)) (fp : List Addr), IFs (X.blk s H scope (compEnvC scope cl C X.env) fp) ifs c)
    (hk : ∀ (s : Shared) (H : Hp) (C : Addr) (cl : List (Str × Addr)) (fp : List Addr), FE (X.blk s H scope (compEnvC scope cl C X.env) fp) kx ek)
    (he : ∀ (s : Shared) (H : Hp) (C : Addr) (cl : List (Str × Addr)) (fp : List Addr), FE (X.blk s H scope (compEnvC scope cl C X.env) fp) vx ev) (hvs : own.map (·.2) = vs := by rfl) (hv : ∀ i ∈ is, i ∈ vs := by decide) (hs : ∀ x, foldedSetIterable iter X.env x = pure x := by intro _; rfl) :
    FE X (.DictComp kx vx [⟨tg, iter, ifs, 0⟩] scope pos) (fDcomp src vs t c ek ev) := by
  subst hvs
  refine ⟨fun pins s σ H Q I ⟨ρ, d, er, hd, q⟩ => ?_⟩
  obtain ⟨kvs, rfl⟩ := fDcomp_dic hd
  have h : tDc (iI X.K b src) (tT X.K is t) (tB X.K c) (tF X.K ek) (tF X.K ev) (own.map (·.2)) σ H (fun v H' => ∃ a ws, v = .ref a ∧ Same H H' ∧ H a = none ∧ H' a = some (.dK ws) ∧ RepK X.K H' kvs ws) :=
    tdc_of hv er hd fun a ws H' s n g r => ⟨a, ws, rfl, s, n, g, r⟩
  refine thn ((pe_dc (pos := pos) (g := tT X.K is t) (tt := tB X.K c) (tk := tF X.K ek) (tv := tF X.K ev) hc hN hi ok hg ht hk he hs).run pins s σ H _ I h) fun u s1 ⟨v, H1, I1, rv, a, ws, ev, sm, nn, gg, rr⟩ => ?_
  subst ev
  obtain ⟨od, I2⟩ := I1.lock gg trivial
  have ext : Ext H1 (upd H1 a (.frz od (.dK ws))) := Ext.updO (.inl (by rw [gg]; trivial))
  refine ⟨.ref a, _, I2, rv, q _ _ (same_new2 sm nn) ?_⟩
  simp only [RepF]
  exact ⟨a, ws, od, rfl, upd_same, RepK.ext ext _ _ rr⟩
/-- d.get(k, x) -/
def gDget (x y z : D) : Option D := match x with
  | .dic kvs => (keyD y).map fun k => (lookK k kvs).getD z
  | _ => none
def fDget (fa fb f : Rho → Option D) : Rho → Option D := fun ρ => (fa ρ).bind fun x => (fb ρ).bind fun y => (f ρ).bind fun z => gDget x y z
theorem fe_dget2 {apos : Pos} (hu : X.A.units + 65 < cLine) (ha : WE X a fa) (hb : FE X b fb) (he : FE X e f) (m : M2 X a "get" apos b e pos) : FE X (.Call (.Attribute a "get" apos) [b, e] [] pos) (fDget fa fb f) :=
  PE.weak (pe_dget2 (by omega) ha hb he m) fun σ H Q ⟨ρ, d, er, hf, q⟩ => by
    obtain ⟨x, h1, hf1⟩ := Option.bind_eq_some_iff.mp hf
    obtain ⟨y, h2, hf2⟩ := Option.bind_eq_some_iff.mp hf1
    obtain ⟨z, h3, h4⟩ := Option.bind_eq_some_iff.mp hf2
    refine ⟨ρ, x, er, h1, fun v H1 s1 r1 => ?_⟩
    cases x <;> simp only [gDget, reduceCtorEq] at h4
    obtain ⟨k, h5, rfl⟩ := Option.map_eq_some_iff.mp h4
    have r1' : RepF X.K H1 (.dic _) v := r1
    simp only [RepF] at r1'
    obtain ⟨ad, ws, o, rfl, ha1, rk⟩ := r1'
    refine ⟨ad, rfl, .inl ⟨ws, .inr ⟨o, ha1⟩⟩, ρ, y, er.same s1, h2, fun u H2 s2 r2 => ⟨ρ, z, er.same (s1.trans s2), h3, fun u3 H3 s3 r3 => ?_⟩⟩
    have ha3 := (s2.trans s3) _ _ ha1
    have rk3 := RepK.ext (Ext.of (s2.trans s3)) _ _ rk
    have hs := (s1.trans s2).trans s3
    rename_i kvs
    refine ⟨valV ws k, .inl ⟨ws, k, .inr ⟨o, ha3⟩, keyD_rep (.of (r2.ext (Ext.of s3))) h5, rfl⟩, ?_⟩
    cases hl : lookK k kvs with
    | none => rw [lookK_none rk3 hl]; rw [hl] at q; exact q _ H3 hs r3
    | some d =>
      obtain ⟨w', h6, h7⟩ := lookK_rep rk3 hl
      rw [h6]; rw [hl] at q
      exact q _ H3 hs h7
end
end PL
/-! ### part PO14 -/
namespace PL
open PySem PySem.Spec PyProof.Rows L2 SupX

/-! ### what of the text is wanted -/
/-- an own error over ValueError -/
structure ErrF (K : PySem.W.Frag) (mg : Str → Option Value) (x : Str) (C : Addr) : Prop where
  g : mg x = some (.ref C)
  x : PySem.W.excIn K C [.type "ValueError", .type "Exception", .type "BaseException", .type "object"] "ValueError.__new__" = true
  k : PySem.W.keepIn K (.ref C) = true
  b : PySem.W.subIn K (.ref C) (.type "BaseException") = some true
  t : PySem.W.typeIn K (.ref C) = some (.type "type")
/-- __init__(self, *items, size = 1000) -/
structure InitF (K : PySem.W.Frag) (x qual : Str) (st : Stmt) (f : Addr) : Prop where
  ex : ∃ (oc : Value) (od : Option Addr) (doc pm : Value) (an : Option Addr) (cdv ct : Value) (osl : Array (Option Value)) (D0 : Addr) (t : Tok), K.lookup f = some ⟨oc, od, .func (PySem.W.fnOf x qual (defArgs st) (defBody st) (defScope st) .none (.ref D0) doc pm an cdv ct), osl⟩ ∧ PySem.W.codeIn K cdv qual = true ∧
    PySem.W.nsIn K D0 "size" = some (some (.int 1000 t))
/-- a def that says super(), in the class at D -/
structure SupF (P : Program) (K : PySem.W.Frag) (x qual : Str) (st : Stmt) (f DD : Addr) (kd : Value → Prop) : Prop where
  ex : ∃ (oc : Value) (od : Option Addr) (kV doc pm : Value) (an : Option Addr) (cda : Addr) (ct : Value) (osl : Array (Option Value)) (cc : Addr) (ccl : Value) (cod : Option Addr) (csl : Array (Option Value)) (kcl : Value) (kod : Option Addr) (vs : Array Value) (ksl : Array (Option Value)) (file : Str) (tf : Tok),
    K.lookup f = some ⟨oc, od, .func (PySem.W.fnX x qual (defArgs st) (defBody st) (defScope st) [(("__class__" : Str), cc)] .none kV doc pm an (.ref cda) ct), osl⟩ ∧ PySem.W.codeIn K (.ref cda) qual = true ∧ K.lookup cc = some ⟨ccl, cod, .cell (some (.ref DD)), csl⟩ ∧
    K.lookup cda = some ⟨kcl, kod, .fields vs, ksl⟩ ∧ vs[2]? = some (.str file tf) ∧ ((P.main.file : Str) == file) = true ∧ kd kV
/-- what all of them want -/
structure SupG (P : Program) (K : PySem.W.Frag) (mg : Str → Option Value) (DD : Addr) : Prop where
  top : (P.main.scope.names.lookup ("super" : Str)).isSome = false
  isC : (PySem.W.clsIn K DD).isSome = true
  mgn : mg "super" = none
theorem passE0 {P : Program} {w : World} {X : Cx} : Passes (L2N.CX P w) X C8.E0 := fun pins σ H s e s' I c => by
  obtain ⟨_, _, _, _, _, _, _, _, _, _, _, _, h⟩ := c
  exact (show False from h).elim
theorem sup_at {P : Program} {w : World} {K : PySem.W.Frag} {mg : Str → Option Value} {base : Heap} {N ps : List Str} {x qual : Str} {st : Stmt} {f cc cda DD : Addr} {A : Around} {outer : List Env} {s : Shared} {H : Hp} {E : XK} {kV doc pm ct oc : Value} {an od : Option Addr} {osl : Array (Option Value)} {ccl kcl : Value} {cod kod : Option Addr}
    {csl ksl : Array (Option Value)} {vs : Array Value} {file : Str} {tf : Tok} {ar : Arg} (S : SupS N ps (defScope st)) (G : SupG P K mg DD) (hself : (defScope st).names.lookup ("self" : Str) = some .local) (hN : N[0]? = some ("self" : Str))
    (lk : K.lookup f = some ⟨oc, od, .func (PySem.W.fnX x qual (defArgs st) (defBody st) (defScope st) [(("__class__" : Str), cc)] .none kV doc pm an (.ref cda) ct), osl⟩) (hp : ((defArgs st).posonlyargs ++ (defArgs st).args).head? = some ar) (har : ar.arg = "self")
    (hcc : K.lookup cc = some ⟨ccl, cod, .cell (some (.ref DD)), csl⟩) (hk : K.lookup cda = some ⟨kcl, kod, .fields vs, ksl⟩) (hv : vs[2]? = some (.str file tf)) (hfile : ((P.main.file : Str) == file) = true) :
    SupE (cxS (L2N.CX P w) P w K mg base N qual (defScope st) f (.ref cda) cc A outer s H E) DD where
  hs := S.sup
  hc := S.cls
  hself := hself
  hN := hN
  fn := ⟨f, oc, od, _, osl, ar, rfl, lk, hp, har⟩
  cd := ⟨cda, kcl, kod, vs, ksl, file, tf, rfl, hk, hv, hfile⟩
  top := G.top
  cell := ⟨cc, ccl, cod, csl, by
    show (cellsFrom _ (defScope st).names [(("__class__" : Str), cc)]).lookup ("__class__" : Str) = some cc
    rw [PySem.cellsFrom_over]
    have no : ∀ (l : List (Str × Addr)), (∀ c, (("__class__" : Str), c) ∉ l) → (l ++ [(("__class__" : Str), cc)]).lookup ("__class__" : Str) = some cc := fun l => by
      induction l with
      | nil => intro _; simp [List.lookup]
      | cons p r ih =>
        intro h
        have hn : p.1 ≠ "__class__" := fun z => h p.2 (by rw [← z]; exact List.mem_cons_self)
        rw [List.cons_append, List.lookup_cons]
        have : (("__class__" : Str) == p.1) = false := by
          rw [beq_eq_false_iff_ne]; exact fun z => hn z.symm
        rw [this]
        exact ih fun c hc => h c (List.mem_cons_of_mem _ hc)
    refine no _ fun c hm => ?_
    rcases own_name hm with h | h
    · have := S.dif _ h rfl
      cases this
    · simp at h, hcc⟩
  isC := Option.isSome_iff_exists.mp G.isC
  mgn := G.mgn
end PL
/-! ### part PSS -/
namespace SetS
open PySem PySem.Spec PyProof.Rows L2
def keyT (e : Int × Value) : Str := match e.2 with | .str k _ => k | _ => Str.empty
def GoodT (w : World) (e : Int × Value) : Prop := ∃ k tk, e.2 = Value.str k tk ∧ e.1 = hashStr w k

/-- the set of ints at a: S its members, n their number; its table rises and can be walked -/
def SetRT (w : World) (h : Heap) (a : Addr) (S : Str → Bool) (n : Nat) : Prop :=
  ∃ o es ep t, h.get? a = some o ∧ o.ExactSet ∧ o.data = .set es ep t ∧ (∀ e ∈ es.toList, GoodT w e) ∧ (es.toList.map keyT).Nodup ∧ (∀ k, S k = true ↔ k ∈ es.toList.map keyT) ∧
    es.size < scanBound ∧ t.fits es.size = true ∧ es.size = n ∧ Ris t.place.toList ∧ (w.params.followText "set-order" = true ∨ t.led = true)

section
variable {P : Program} {w : World} {h h' : Heap} {a : Addr} {S : Str → Bool} {n : Nat}

theorem SetRT.at (R : SetRT w h a S n) (k : ∀ o, h.get? a = some o → h'.get? a = some o) : SetRT w h' a S n := by
  obtain ⟨o, es, ep, t, ho, r⟩ := R
  exact ⟨o, es, ep, t, k o ho, r⟩
theorem SetRT.lt (R : SetRT w h a S n) : a < h.objs.size := by
  obtain ⟨o, es, ep, t, ho, r⟩ := R
  exact Heap.lt_size ho
theorem SetRT.congr {S' : Str → Bool} (R : SetRT w h a S n) (e : ∀ k, S' k = S k) : SetRT w h a S' n := by
  have q : S' = S := funext e
  rw [q]; exact R
theorem goodT_elems {l : List (Int × Value)} (g : ∀ e ∈ l, GoodT w e) : ElemsOf (strKind P w) l := fun e he => by
  obtain ⟨k, tk, h1, h2⟩ := g e he
  exact ⟨⟨k, by rw [h1]; exact strKind_is P w k tk, h2⟩, by rw [h1] <;> rfl⟩
theorem goodT_is {e : Int × Value} (g : GoodT w e) (k : Str) : (strKind P w).is k e.2 = true ↔ keyT e = k := by
  obtain ⟨k0, tk, h1, _⟩ := g
  unfold keyT
  rw [h1]
  show ((k0 == k) = true) ↔ k0 = k
  exact beq_iff_eq
theorem goodT_mem {l : List (Int × Value)} (g : ∀ e ∈ l, GoodT w e) (k : Str) : k ∈ l.map keyT ↔ ∃ e ∈ l, (strKind P w).is k e.2 = true := by
  rw [List.mem_map]
  constructor
  · rintro ⟨e, he, q⟩
    exact ⟨e, he, (goodT_is (g e he) k).2 q⟩
  · rintro ⟨e, he, q⟩
    exact ⟨e, he, (goodT_is (g e he) k).1 q⟩
theorem SetRT.setOf (R : SetRT w h a S n) : h.SetOf (strKind P w) a S n := by
  obtain ⟨o, es, ep, t, ho, hx, hd, g, nd, hm, hb, hf, hn, _⟩ := R
  exact ⟨o, es, ep, t, ho, hx, hd, goodT_elems g, fun k => (hm k).trans (goodT_mem g k), hb, hf, hn⟩
end

section
variable {P : Program} {w : World} {A : Around} {E : Value → Shared → Prop} {s : Shared} {a : Addr} {S : Str → Bool} {n : Nat}

/-! ### add -/
theorem store_atT {h : Heap} {a : Addr} {o : Obj} {es es' : Array (Int × Value)} {ep : Nat} {t t' : SetTable} (ho : h.get? a = some o) (hd : o.data = .set es ep t) :
    (h.update a (Obj.putSet es' t')).get? a = some { o with data := .set es' (ep + 1) t' } := by
  have q := Heap.get?_update_self (Obj.putSet es' t') ho (by rw [putSet_of es' t' hd]; rfl)
  rw [putSet_of es' t' hd] at q
  exact q

theorem setRT_add_tail {g : Bool → Sem Unit} (hg : ∀ (b : Bool) (s₁ : Shared) (Q' : Unit → Shared → Prop), Q' () s₁ → wpAny (model P w) A (g b) Q' E s₁)
    {o : Obj} {es : Array (Int × Value)} {ep : Nat} {t : SetTable} (ho : s.heap.get? a = some o) (hex : o.ExactSet) (hd : o.data = .set es ep t)
    {es1 : Array (Int × Value)} {t2 : SetTable} {S' : Str → Bool} (g1 : ∀ e ∈ es1.toList, GoodT w e) (nd1 : (es1.toList.map keyT).Nodup) (m1 : ∀ k, S' k = true ↔ k ∈ es1.toList.map keyT)
    (hb1 : es1.size < scanBound) (hf2 : t2.fits es1.size = true) (hr : Ris t2.place.toList) (hl : w.params.followText "set-order" = true ∨ t2.led = true) {wasDummy : Bool} {R : Option Bool → Shared → Prop}
    (hR : ∀ h', Heap.SameBut a s.heap h' → SetRT w h' a S' es1.size → R (some true) { s with heap := h' }) :
    wpAny (model P w) A (do
        storeSet a es1 t2
        if (!wasDummy && t2.tooFull) = true then do
            g (relayAll t2 es1 (SetTable.grown es1.size)).2.2
            storeSet a (relayAll t2 es1 (SetTable.grown es1.size)).1 (relayAll t2 es1 (SetTable.grown es1.size)).2.1
            pure (some true)
          else pure (some true)) R E s := by
  refine wpAny_bind (wpAny_storeSet_of ho hd ?_ (fits_of_scanBound hb1))
  have ho1 := store_atT (es' := es1) (t' := t2) ho hd
  have sb1 := Heap.SameBut.update s.heap a (Obj.putSet es1 t2)
  split
  · have pm := relayAll_perm t2 es1 (SetTable.grown es1.size)
    have hf3 := relayAll_fits t2 es1 (SetTable.grown es1.size)
    have hr3 := relayAll_ris t2 es1 (SetTable.grown es1.size)
    have hl3 := relayAll_led t2 es1 (SetTable.grown es1.size)
    generalize relayAll t2 es1 (SetTable.grown es1.size) = Z at pm hf3 hr3 hl3 ⊢
    obtain ⟨es2, t3, gave⟩ := Z
    dsimp only at pm hf3 hr3 hl3 ⊢
    have hsz : es2.size = es1.size := by rw [← Array.length_toList, pm.length_eq, Array.length_toList]
    have hb2 : es2.size < scanBound := by rw [hsz]; exact hb1
    refine wpAny_bind (hg _ _ _ ?_)
    refine wpAny_bind (wpAny_storeSet_of ho1 rfl ?_ (fits_of_scanBound hb2))
    have ho2 := store_atT (es' := es2) (t' := t3) ho1 rfl
    refine wpAny_pure (hR _ (sb1.trans (Heap.SameBut.update _ a _)) ?_)
    exact ⟨_, es2, _, t3, ho2, hex, rfl, fun e he => g1 e (pm.mem_iff.mp he), (pm.map keyT).nodup_iff.mpr nd1, fun k => (m1 k).trans (pm.map keyT).mem_iff.symm, hb2, hf3, hsz, hr3,
      hl.imp id fun z => by rw [hl3]; exact z⟩
  · exact wpAny_pure (hR _ sb1 ⟨_, es1, _, t2, ho1, hex, rfl, g1, nd1, m1, hb1, hf2, rfl, hr, hl⟩)

theorem setRT_add_hashed {k : Str} {tk : Tok} {Q : Bool → Shared → Prop} (R : SetRT w s.heap a S n) (room : n + 1 < scanBound)
    (hQ : ∀ h', Heap.SameBut a s.heap h' → SetRT w h' a (fun j => S j || decide (j = k)) (if S k = true then n else n + 1) → Q (!S k) { s with heap := h' }) :
    wpAny (model P w) A (setAddHashed a (.str k tk) ((strKind P w).hash k)) Q E s := by
  obtain ⟨o, es, ep, t, ho, hex, hd, g, nd, hm, hb, hf, hn, hr, hl⟩ := R
  have hkey : (strKind P w).is k (.str k tk) = true := strKind_is P w k tk
  have hsc : (Value.str k tk).scannable = true := rfl
  have hel : ElemsOf (strKind P w) es.toList := goodT_elems g
  unfold setAddHashed setAddHashedIn
  refine wpAny_holding (wpAny_bind (wpAny_setState_of ho hd hf ?_))
  dsimp only
  rw [byScan_of hsc hb hel]
  simp only [↓reduceIte]
  unfold setAddByScan
  refine wpAny_bind ?_
  refine wpAny_bind (wpAny_rule ?_)
  refine wpAny_bind (wpAny_setScan_of hkey ho hd hf hel ?_)
  cases hfi : List.findIdx? (fun e => (strKind P w).is k e.2) es.toList with
  | some j =>
    dsimp only
    obtain ⟨hj, pj, _⟩ := List.findIdx?_eq_some_iff_getElem.mp hfi
    have hSk : S k = true := (hm k).2 ((goodT_mem (P := P) (w := w) g k).2 ⟨es.toList[j], List.getElem_mem hj, pj⟩)
    refine wpAny_pure (wpAny_pure ?_)
    have q := hQ s.heap (Heap.SameBut.refl a s.heap) ⟨o, es, ep, t, ho, hex, hd, g, nd, fun i => by
      rw [Bool.or_eq_true, decide_eq_true_eq, ← hm i]
      exact ⟨fun z => z.elim id (fun e => e ▸ hSk), .inl⟩, hb, hf, by rw [if_pos hSk]; exact hn, hr, hl⟩
    rw [hSk] at q
    exact q
  | none =>
    dsimp only
    have hnk : k ∉ es.toList.map keyT := fun z => by
      obtain ⟨e, he, q⟩ := (goodT_mem (P := P) (w := w) g k).1 z
      have c := List.findIdx?_eq_none_iff.mp hfi e he
      rw [q] at c
      cases c
    have hSk : S k = false := by
      cases q : S k with
      | false => rfl
      | true => exact absurd ((hm k).1 q) hnk
    have hgw : ∀ (b : Bool) {s₁ : Shared} {Q' : Unit → Shared → Prop}, Q' () s₁ → wpAny (model P w) A (match b with | true => rule "set.scan.the-table-gave-way" | false => pure ()) Q' E s₁ :=
      fun b s₁ Q' q => by cases b <;> first | exact wpAny_pure q | exact wpAny_rule q
    have pm := layNew_perm t es ((strKind P w).hash k) (.str k tk)
    have hf1 := layNew_fits t es ((strKind P w).hash k) (.str k tk)
    have hr1 := layNew_ris t es ((strKind P w).hash k) (.str k tk) hr
    have hl1 := layNew_led t es ((strKind P w).hash k) (.str k tk)
    generalize layNew t es ((strKind P w).hash k) (.str k tk) = Z at pm hf1 hr1 hl1 ⊢
    obtain ⟨es1, t1, wasDummy, gave⟩ := Z
    dsimp only at pm hf1 hr1 hl1 ⊢
    rw [Array.toList_push] at pm
    have pc : es1.toList.Perm (((strKind P w).hash k, Value.str k tk) :: es.toList) := pm.trans (List.perm_append_singleton _ _)
    have pk : (es1.toList.map keyT).Perm (k :: es.toList.map keyT) := pc.map keyT
    have g1 : ∀ e ∈ es1.toList, GoodT w e := fun e he => by
      rcases List.mem_cons.mp (pc.mem_iff.mp he) with z | z
      · rw [z]; exact ⟨k, tk, rfl, rfl⟩
      · exact g e z
    have nd1 : (es1.toList.map keyT).Nodup := pk.nodup_iff.mpr (List.nodup_cons.mpr ⟨hnk, nd⟩)
    have m1 : ∀ i, (S i || decide (i = k)) = true ↔ i ∈ es1.toList.map keyT := fun i => by
      rw [Bool.or_eq_true, decide_eq_true_eq, hm i, pk.mem_iff, List.mem_cons]
      exact Or.comm
    have hsz : es1.size = n + 1 := by rw [← Array.length_toList, pc.length_eq, List.length_cons, Array.length_toList, hn]
    have hb1 : es1.size < scanBound := by rw [hsz]; exact room
    have hled : w.params.followText "set-order" = true ∨ t1.led = true := hl.imp id fun z => by rw [hl1]; exact z
    have fin : ∀ h', Heap.SameBut a s.heap h' → SetRT w h' a (fun j => S j || decide (j = k)) es1.size → Q true { s with heap := h' } := fun h' sb r => by
      have q := hQ h' sb
      rw [hSk] at q
      rw [hsz] at r
      exact q r
    refine wpAny_bind (hgw _ ?_)
    split
    · refine wpAny_bind ?_
      rw [hashByValue_scannable 8 hsc]
      refine wpAny_pure ?_
      refine setRT_add_tail ?_ ho hex hd g1 nd1 m1 hb1 ?_ ?_ ?_ ?_
      · intro b s₁ Q' q; cases b <;> first | exact wpAny_pure q | exact wpAny_rule q
      · first | (split <;> first | exact hf1 | exact SetTable.fits_plain_off hf1) | exact hf1
      · first | (split <;> exact hr1) | exact hr1
      · first | (split <;> exact hled) | exact hled
      · intro h' sb r; dsimp only; exact wpAny_pure (fin h' sb r)
    · refine wpAny_bind (wpAny_pure ?_)
      simp only [↓reduceIte]
      refine setRT_add_tail ?_ ho hex hd g1 nd1 m1 hb1 hf1 hr1 hled ?_
      · intro b s₁ Q' q; cases b <;> first | exact wpAny_pure q | exact wpAny_rule q
      · intro h' sb r; dsimp only; exact wpAny_pure (fin h' sb r)

end
section
variable {P : Program} {w : World} {A : Around} {E : Value → Shared → Prop} {s : Shared}
theorem setRT_new_at {w : World} {h : Heap} {a : Addr} {ns : List Str} (ho : h.get? a = some { cls := .type "set", dict := none, data := .set #[] 0 (.fresh 0 0 (!w.params.followText "set-order")) }) : SetRT w h a (fun j => decide (j ∈ ns.take 0)) 0 :=
  ⟨_, #[], 0, _, ho, ⟨rfl, rfl, rfl⟩, rfl, (fun e he => by simp at he), (by simp), (fun k => by simp), (by decide), (by rfl), rfl, List.Pairwise.nil, by
    show _ ∨ (!w.params.followText "set-order") = true
    cases w.params.followText "set-order"
    · exact .inr rfl
    · exact .inl rfl⟩
theorem set_update_txts {I : Addr} {fp wr : List Addr} {G : Array GenState → Array GenState → Prop} {n : Nat} {Pv : Nat → Value → Prop} {St : Nat → Shared → Prop} {R : Result → Shared → Prop}
    (W : WalksS P w A.in1 I fp wr G n Pv St) (S : Addr) (hSf : S ∉ fp) (ns : List Str) (hn : n = ns.length) (hb : ns.length + 1 < scanBound) (hval : ∀ i v, Pv i v → ∃ k t, ns[i]? = some k ∧ v = .str k t) :
    ∀ (k i : Nat) (s : Shared), n - i = k → i ≤ n → St i s → (∃ c, c ≤ i ∧ SetRT w s.heap S (fun j => decide (j ∈ ns.take i)) c) →
      (∀ s' c, Moved (S :: wr) G s s' → c ≤ n → SetRT w s'.heap S (fun j => decide (j ∈ ns)) c → R (.ok (.ret .none)) s') →
      codeAny (model P w) A (.builtin "set.update.loop" ⟨[.ref S, .ref I], []⟩) R s := by
  have hSw : S ∉ wr := fun h => hSf (W.sub _ h)
  have hsub : ∀ b ∈ wr, b ∈ S :: wr := fun b hb => List.mem_cons_of_mem _ hb
  intro k
  induction k with
  | zero =>
    intro i s hk' hi hst ⟨c, hc, hS⟩ hR
    have hin : i = n := by omega
    subst hin
    refine codeAny_builtin F.entry_set_update_loop ?_
    rw [Around.under_plainId F.plain_set_update_loop _]
    show wpAny _ A.in1 (pyNext (.ref I) >>= _) _ _ s
    refine wpAny_bind (W.done s _ _ hst fun s' hm => ?_)
    show wpAny _ A.in1 (ret Value.none) _ _ s'
    have e : ns.take i = ns := List.take_of_length_le (by omega)
    rw [e] at hS
    exact wpAny_pure (hR s' c (hm.mono hsub) hc (hS.at fun o e => hm.heap S o hSw e))
  | succ k ih =>
    intro i s hk' hi hst ⟨c, hc, hS⟩ hR
    have hlt : i < n := by omega
    refine codeAny_builtin F.entry_set_update_loop ?_
    rw [Around.under_plainId F.plain_set_update_loop _]
    show wpAny _ A.in1 (pyNext (.ref I) >>= _) _ _ s
    refine wpAny_bind (W.item i s _ _ hlt hst fun v s' hP hst' hm => ?_)
    obtain ⟨z, t, hz, rfl⟩ := hval i v hP
    have hS' : SetRT w s'.heap S (fun j => decide (j ∈ ns.take i)) c := hS.at fun o e => hm.heap S o hSw e
    show wpAny _ A.in1 (holding [Value.str z t] (setAdd S (.str z t)) >>= _) _ _ s'
    refine wpAny_bind (wpAny_holding ?_)
    unfold setAdd
    refine wpAny_holding ?_
    refine wpAny_bind ((PySem.strKind P w).pyHash (k := z) (PySem.strKind_is _ _ _ _) ?_)
    refine setRT_add_hashed (s := { s' with toks := s'.toks + 1 }) hS' (by omega) fun h' hsb hS2 => ?_
    have hS3 : SetRT w h' S (fun j => decide (j ∈ ns.take (i + 1))) (if decide (z ∈ ns.take i) = true then c else c + 1) := hS2.congr fun j => by
      rw [List.take_add_one, hz]
      simp [List.mem_append]
    have hc3 : (if decide (z ∈ ns.take i) = true then c else c + 1) ≤ i + 1 := by
      split <;> omega
    refine wpAny_pure ⟨plainId_quiet F.plain_set_update_loop _, ih (i + 1) _ (by omega) hlt (W.frame _ s' _ _ hst' (Nat.le_succ _) fun b hb o e => ?_) ⟨_, hc3, hS3⟩ fun s'' c2 hm'' hc'' hS'' => ?_⟩
    · rw [hsb.2 b (fun h : b = S => hSf (by rw [← h]; exact hb))]; exact e
    · refine hR s'' c2 (Moved.trans W.gtrans ((hm.mono hsub).then_heap (Nat.le_succ _) fun b o hb e => ?_) hm'') hc'' hS''
      rw [hsb.2 b (fun h : b = S => hb (by rw [h]; exact List.mem_cons_self))]; exact e

set_option maxRecDepth 100000 in
set_option maxHeartbeats 3200000 in
theorem call_set_lstT {l : Addr} {items : Array Value} (ns : List Str) {Q : Value → Shared → Prop} (hh : A.handled = none) (hl : s.heap.IsList l items) (hit : StrsAre items.toList ns) (hb : ns.length + 1 < scanBound)
    (h : ∀ (h' : Heap) (tk c : Nat), SetRT w h' s.heap.objs.size (fun j => decide (j ∈ ns)) c → c ≤ ns.length → (∀ b o, s.heap.get? b = some o → h'.get? b = some o) → Q (.ref s.heap.objs.size) { s with heap := h', toks := tk }) :
    wpAny (model P w) A (call (.type "set") [.ref l]) Q E s := by
  have hisz : items.size = ns.length := by
    have q := PyProof.Rows.StrsAre.len_eq hit
    rw [Array.length_toList] at q
    exact q
  obtain ⟨c, tl, hmro⟩ := F.called_set.mro
  have hmade := F.called_set.made
  have hsub := F.called_set.sub
  refine wpAny_call (codeAny_of_tree ?_)
  show wpAny _ _ (callAny (.type "set") _) _ _ _
  refine wpAny_pure ⟨Code.quiet_builtin _ (by decide +kernel), codeAny_builtin F.entry_type_call ?_⟩
  rw [Around.under_plain (weight_type_call_type "set" [.ref l] []) rfl]
  have h1 := F.called_set.notType
  have h2 := F.called_set.canCreate
  have hct := F.typeCall_set_1 (.ref l)
  repeat (any_goals (first | assumption | wp_step))

  refine codeAny_mono (code_set_led1 (.ref l) (E := E) (Q₁ := fun obj s₁ => obj = .ref s.heap.objs.size ∧ s₁ = { s with heap := s.heap.push { cls := .type "set", dict := none, data := .set #[] 0 (.fresh 0 0 (!w.params.followText "set-order")) } }) ⟨rfl, rfl⟩) fun r s₁ hr => ?_
  cases r with
  | error e => exact hr
  | ok fl =>
    cases fl with
    | ret obj =>
      obtain ⟨rfl, rfl⟩ := hr
      have hS : (s.heap.push { cls := .type "set", dict := none, data := .set #[] 0 (.fresh 0 0 (!w.params.followText "set-order")) }).get? s.heap.objs.size = some { cls := .type "set", dict := none, data := .set #[] 0 (.fresh 0 0 (!w.params.followText "set-order")) } := Heap.get?_push_size _ rfl
      have hT : Shared.TypeIs { s with heap := s.heap.push { cls := .type "set", dict := none, data := .set #[] 0 (.fresh 0 0 (!w.params.followText "set-order")) } } (.ref s.heap.objs.size) "set" := ⟨_, hS, rfl⟩
      have hli := F.called_set.init.lookup
      have hbi := F.called_set.init.bind (.ref s.heap.objs.size)
      repeat (any_goals (first | assumption | wp_step))

      refine codeAny_mono (codeAny_call_builtin (R := wants (fun r s₂ => r = .none ∧ ∃ h' tk c, s₂ = { s with heap := h', toks := tk } ∧ SetRT w h' s.heap.objs.size (fun j => decide (j ∈ ns)) c ∧ c ≤ ns.length ∧
          (∀ b o, s.heap.get? b = some o → h'.get? b = some o)) E) F.called_set.init.plain F.entry_set_init (check_set_init_1 hT ?_)) fun r₂ s₂ hr₂ => ?_
      · obtain ⟨ol, hol, hcl, nl, hdl⟩ := hl
        obtain ⟨ocls, odict, odata, oslots⟩ := ol
        simp only at hcl hdl
        subst hcl; subst hdl
        have hol' : (s.heap.push { cls := .type "set", dict := none, data := .set #[] 0 (.fresh 0 0 (!w.params.followText "set-order")) }).get? l = some { cls := .type "list", dict := odict, data := .seq items nl, slots := oslots } := Heap.get?_push_of_some _ hol
        have hsls := F.sub_list_set
        have hslf := F.sub_list_frozenset
        have hne : (Value.type "list" == Value.type "dict") = false := by decide
        have hl1 : (s.heap.push { cls := .type "set", dict := none, data := .set #[] 0 (.fresh 0 0 (!w.params.followText "set-order")) }).IsList l items := ⟨_, hol', rfl, nl, rfl⟩
        unfold Builtin.«set.__init__» noKeywords Builtin.Frozenset.updateFrom
        generalize hPI : pyIter = PI
        wp_walk
        subst hPI

        refine wpAny_pyIter_list hl1 ?_
        refine wpAny_bind (wpAny_runValue ?_)
        have hlS : l < s.heap.objs.size := Heap.lt_size hol
        have hh3 : A.in1.in1.in1.handled = none := by simp [hh]
        have hz1 : (s.heap.push { cls := .type "set", dict := none, data := .set #[] 0 (.fresh 0 0 (!w.params.followText "set-order")) }).objs.size = s.heap.objs.size + 1 := Heap.size_push ..
        have hneI : l ≠ (s.heap.push { cls := .type "set", dict := none, data := .set #[] 0 (.fresh 0 0 (!w.params.followText "set-order")) }).objs.size := by
          rw [Heap.size_push]; exact Nat.ne_of_lt (Nat.lt_succ_of_lt hlS)
        have hSf : s.heap.objs.size ∉ [(s.heap.push { cls := .type "set", dict := none, data := .set #[] 0 (.fresh 0 0 (!w.params.followText "set-order")) }).objs.size, l] := by
          rw [Heap.size_push]; simp only [List.mem_cons, List.mem_singleton, List.not_mem_nil, or_false, not_or]
          exact ⟨Nat.ne_of_lt (Nat.lt_succ_self _), Nat.ne_of_gt hlS⟩
        have hval : ∀ (i : Nat) (v : Value), items[i]? = some v → ∃ k t, ns[i]? = some k ∧ v = .str k t := fun i v hv => by
          have hi : i < ns.length := by rw [← hisz]; exact (Array.getElem?_eq_some_iff.mp hv).1
          obtain ⟨t, e⟩ := SS.strs_at hit i v (by rw [Array.getElem?_toList]; exact hv)
          refine ⟨ns[i], t, List.getElem?_eq_getElem hi, ?_⟩
          rw [e, List.getD_eq_getElem?_getD, List.getElem?_eq_getElem hi] <;> rfl
        refine set_update_txts ((Walks.list hh3 _ l hneI items).toS) s.heap.objs.size
          hSf ns hisz hb hval (items.size - 0) 0 _ (by omega) (Nat.zero_le _)
          ⟨⟨_, Heap.get?_push_size _ rfl, rfl, rfl⟩, (hl1.push _)⟩ ?hS0 ?hR
        case hS0 =>
          have hget : ((s.heap.push { cls := .type "set", dict := none, data := .set #[] 0 (.fresh 0 0 (!w.params.followText "set-order")) }).push { cls := .type "list_iterator", data := .fields #[.ref l, .int 0 0] }).get? s.heap.objs.size
              = some { cls := .type "set", dict := none, data := .set #[] 0 (.fresh 0 0 (!w.params.followText "set-order")) } := Heap.get?_push_of_some _ hS
          exact ⟨0, Nat.le_refl 0, setRT_new_at hget⟩
        case hR =>
          intro s' c' hm hc' hS'
          obtain ⟨h', g2, d', tk', os'⟩ := s'
          have eg : g2 = s.gens := hm.gens
          have ed : d' = s.drawn := hm.drawn
          have eo : os' = s.os := hm.os
          subst eg; subst ed; subst eo
          show wpAny _ _ _ _ _ _
          refine wpAny_pure ?_
          show wpAny _ _ (ret Value.none) _ _ _
          rw [hisz] at hc'
          refine wpAny_pure ⟨rfl, h', tk', c', rfl, hS', hc', fun b o e => ?_⟩
          have hb0 : b < s.heap.objs.size := Heap.lt_size e
          have hb1 : b ≠ s.heap.objs.size := Nat.ne_of_lt hb0
          have hb2 : b ≠ (s.heap.push { cls := .type "set", dict := none, data := .set #[] 0 (.fresh 0 0 (!w.params.followText "set-order")) }).objs.size := by
            rw [Heap.size_push]; exact Nat.ne_of_lt (Nat.lt_succ_of_lt hb0)
          exact hm.heap b o (by simp only [List.mem_cons, List.mem_singleton, List.not_mem_nil, or_false, not_or]; exact ⟨hb1, hb2⟩) (Heap.get?_push_of_some _ (Heap.get?_push_of_some _ e))

      · cases r₂ with
        | error e => exact hr₂
        | ok fl₂ =>
          cases fl₂ with
          | ret r =>
            obtain ⟨rfl, h', tk, c', rfl, hS', hc', hk'⟩ := hr₂
            repeat (any_goals (first | assumption | wp_step))
            exact h _ _ _ hS' hc' hk'
          | _ => exact hr₂.elim
    | _ => exact hr.elim

end
end SetS
/-! ### part PST -/
namespace SetS
open PySem PySem.Spec PyProof.Rows L2
section
variable {P : Program} {w : World} {A : Around} {E : Value → Shared → Prop} {s : Shared} {a : Addr}
theorem txts_of {es : List (Int × Value)} (g : ∀ e ∈ es, GoodT w e) : ∀ (l : List Value), (∀ v ∈ l, ∃ e ∈ es, e.2 = v) → StrsAre l (l.map fun v => match v with | .str k _ => k | _ => Str.empty)
  | [], _ => .nil
  | v :: r, h => by
    obtain ⟨e, he, q⟩ := h v List.mem_cons_self
    obtain ⟨k, tk, h1, _⟩ := g e he
    rw [← q, h1]
    exact .cons k tk (txts_of g r (fun u hu => h u (List.mem_cons_of_mem _ hu)))
theorem sorted_setT {S : Str → Bool} {n : Nat} {Q : Value → Shared → Prop} (R : SetRT w s.heap a S n) (hh : A.handled = none) (h64 : n < 64)
    (hQ : ∀ s' p (out : Array Value) (c : Nat) (ss : List Str), (∀ b o, s.heap.get? b = some o → s'.heap.get? b = some o) → s'.gens = s.gens → s'.os = s.os → s.heap.objs.size ≤ p →
      s'.heap.get? p = some (seqObj "list" out c) → StrsAre out.toList ss → sortedS ss = true → ss.Nodup → (∀ k, k ∈ ss ↔ S k = true) → ss.length = n → Q (.ref p) s') :
    wpAny (model P w) A (call (.builtin "sorted") [.ref a]) Q E s := by
  obtain ⟨o, es, ep, t, ho, hex, hd, g, nd, hm, hb, hf, hn, hr, hl⟩ := R
  refine Calls.call_function_entry kind_sorted plain_sorted entry_sorted (args_sorted1 _) ?_
  unfold Builtin.«sorted»
  refine wpAny_bind (m := checkCount "sorted" 1 1 _) (wpAny_pure ?_)
  refine wpAny_bind (collect_set (A := A.in1) hh ⟨o, ho, hex.1, hd⟩ hf hb hr hl fun s1 vs k1 hz g1 o1 pm => ?_)
  have hvl : vs.length = n := by rw [pm.length_eq, List.length_map, Array.length_toList]; exact hn
  have hI := txts_of (w := w) g vs fun v hv => by
    obtain ⟨e, he, q⟩ := List.mem_map.mp (pm.mem_iff.mp hv)
    exact ⟨e, he, q⟩
  have pk : (vs.map fun v => match v with | .str k _ => k | _ => Str.empty).Perm (es.toList.map keyT) := by
    have q := pm.map (fun v => match v with | .str k _ => k | _ => Str.empty)
    rw [List.map_map] at q
    exact q
  refine wpAny_bind (wpAny_newList ?_ (by rw [hvl, sizeLine_eq]; omega))
  have hoL : (s1.heap.push (seqObj "list" vs.toArray 0)).get? s1.heap.objs.size = some (seqObj "list" vs.toArray 0) := Heap.get?_push_size _ rfl
  refine wpAny_bind (wpAny_holding (wpAny_call_entry slot_list_sort ⟨_, hoL, rfl⟩ entry_list_sort (list_sort_treeK strKind_oneLt hoL hI.keysOf (fun v₁ v₂ rest e => keyKind_strs (by rw [← e]; exact hI)) (by rw [hvl]; exact h64) fun st' hp hs => ⟨_, rfl, ?_⟩) (args_list_sort _)))
  obtain ⟨ss', a1, a2, a3⟩ := sorted_out_str hI hp hs
  obtain ⟨c, hc⟩ := sortedHeap_at (vs := vs) (out := (arrOf st').map (·.2)) hoL
  have pn : ss'.Perm (es.toList.map keyT) := a2.trans pk
  refine wpAny_pure ⟨_, rfl, hQ _ s1.heap.objs.size _ c ss' (fun b u e => ?_) g1 o1 hz hc a1 a3 (pn.nodup_iff.mpr nd) (fun k => by rw [pn.mem_iff, ← hm k]) ?_⟩
  · have q := k1 b u e
    have hlt := Heap.lt_size q
    show (sortedHeap (s1.heap.push (seqObj "list" vs.toArray 0)) s1.heap.objs.size vs _).get? b = some u
    rw [sortedHeap_old (Nat.ne_of_lt hlt) (by rw [size_push']; exact Nat.lt_succ_of_lt hlt)]
    exact Heap.get?_push_of_some _ q
  · rw [pn.length_eq, List.length_map, Array.length_toList]; exact hn
end
end SetS
namespace PL
open PySem PySem.Spec PyProof.Rows L2
/-- each text once -/
def ddT : List Str → List Str
  | [] => []
  | x :: r => if x ∈ r then ddT r else x :: ddT r
theorem mem_ddT {k : Str} : ∀ {l : List Str}, k ∈ ddT l ↔ k ∈ l
  | [] => Iff.rfl
  | x :: r => by
    unfold ddT
    split
    · rename_i h
      rw [mem_ddT, List.mem_cons]
      exact ⟨.inr, fun z => z.elim (fun e => e ▸ h) id⟩
    · rw [List.mem_cons, List.mem_cons, mem_ddT]
theorem nodup_ddT : ∀ (l : List Str), (ddT l).Nodup
  | [] => List.nodup_nil
  | x :: r => by
    unfold ddT
    split
    · exact nodup_ddT r
    · rename_i h
      exact List.nodup_cons.mpr ⟨fun z => h (mem_ddT.mp z), nodup_ddT r⟩
theorem len_ddT : ∀ (l : List Str), (ddT l).length ≤ l.length ∧ ((ddT l).length = l.length ↔ l.Nodup)
  | [] => ⟨Nat.le_refl _, by simp [ddT]⟩
  | x :: r => by
    have ih := len_ddT r
    unfold ddT
    split
    · rename_i h
      refine ⟨by simp; omega, ?_⟩
      rw [List.nodup_cons]
      simp only [List.length_cons]
      constructor
      · intro e; omega
      · intro e; exact absurd h e.1
    · rename_i h
      refine ⟨by simp; omega, ?_⟩
      rw [List.nodup_cons]
      simp only [List.length_cons]
      constructor
      · intro e; exact ⟨h, ih.2.mp (by omega)⟩
      · intro e; rw [ih.2.mpr e.2]
theorem uniq_ddT {l m : List Str} (nd : m.Nodup) (hm : ∀ k, k ∈ m ↔ k ∈ l) (h : sortedS m = true) : m = srtS (ddT l) := by
  refine srtS_uniq ?_ h
  rw [List.perm_ext_iff_of_nodup nd (nodup_ddT l)]
  exact fun k => by rw [hm k, mem_ddT]
section
variable {X : Cx}
def tSortSet (K : PySem.W.Frag) (ta : TE) : TE := fun σ H Q => ta σ H fun x H1 => ∃ l, ∃ xs : List Str, x = .ref l ∧ SqL K H1 l (xs.map V.str) ∧ xs.length < 64 ∧ ∀ (ys : List Str) (p : Addr), ys.Nodup → (∀ k, k ∈ ys ↔ k ∈ xs) → sortedS ys = true → H1 p = none → Q (.ref p) (upd H1 p (.lst (ys.map V.str)))
theorem pe_sortSet {a : Expr} {ta : TE} {p p2 q pos : Pos} (hc : X.calm = true) (hg : Gl X "sorted") (hm : X.mg "sorted" = none) (hg2 : Gl X "set") (hm2 : X.mg "set" = none) (ha : PE X a ta)
    (na : starEach [a] X.env = (false, eval a X.env) :: starEach [] X.env := by rfl) : PE X (.Call (.Name "sorted" p) [.Call (.Name "set" p2) [a] [] q] [] pos) (tSortSet X.K ta) := by
  refine ⟨fun pins s σ H Q I h => ?_⟩
  refine Call_ (ld_blt I hg hm (by decide +kernel : bootBuiltins "sorted" = some (.builtin "sorted")) ?_)
  refine PyProof.Rows.callWith_builtin1 (PyProof.Rows.args_cons ?_ rfl) rfl rfl
  refine Call_ (ld_blt I hg2 hm2 PyProof.Rows.boot_set ?_)
  refine PyProof.Rows.callWith_type1 (PyProof.Rows.args_cons (thn (ha.run pins s σ H _ I h) fun v s1 ⟨x, H1, I1, r1, q1⟩ => PyProof.Rows.args_nil ?_) na) na rfl
  obtain ⟨l, xs, rfl, hq, h1, q1⟩ := q1
  cases r1
  obtain ⟨its, r, pl, hz⟩ := I1.list hq
  have hl : its.toArray.size = xs.length := by rw [List.size_toArray, ← r.length, List.length_map]
  refine SetS.call_set_lstT xs (I1.ok.hd hc) pl.isList (by simpa using strsAre_of r) (by unfold scanBound; omega) fun h' tk c hS hcl hk => ?_
  refine PyProof.Rows.args_nil ?_
  have I2 : Inv X pins σ H1 { s1 with heap := h', toks := tk } := I1.kept hk
  have fin : ∀ s2 : Shared, s2.heap = h' → Inv X pins σ H1 s2 → SetS.SetRT X.w s2.heap s1.heap.objs.size (fun j => decide (j ∈ xs)) c → wpAny (model X.prog X.w) X.A (call (.builtin "sorted") [.ref s1.heap.objs.size]) (EP X pins σ Q) X.xe s2 := fun s2 _ I2 hS => by
    refine SetS.sorted_setT hS (I1.ok.hd hc) (by omega) fun s' p out c' ss k g o hp hgt hi hs hnd hmm hln => ?_
    have hlen : (ss.map V.str).length ≤ sizeLine := by rw [List.length_map, hln, sizeLine_eq]; omega
    have hn : H1 p = none := I2.hok.fresh hp
    have J : Inv X pins σ (upd H1 p (.lst (ss.map V.str))) { s2 with heap := s'.heap, gens := s'.gens, drawn := s'.drawn, toks := s'.toks } :=
      I2.call (ch := []) (Un.laid k hp hn) (I2.hok.laid k hp ⟨hlen, out.toList, c', vals_of_strs hi, hgt⟩) (by rw [g]; exact I2.bare) (fun _ z => nomatch z)
    have e : s' = { s2 with heap := s'.heap, gens := s'.gens, drawn := s'.drawn, toks := s'.toks } := by
      cases s'
      cases s2
      cases o
      rfl
    rw [e]
    exact ⟨.ref p, _, J, rfl, q1 ss p hnd (fun k => by rw [hmm k, decide_eq_true_eq]) hs hn⟩
  exact fin _ rfl I2 hS
def gSortSet : D → Option D
  | .lst xs => (strsOf xs).bind fun ss => if ss.length < 64 then some (.opn ((srtS (ddT ss)).map .str)) else none
  | _ => none
theorem me_sortSet {a : Expr} {fa : Rho → Option D} {p p2 q pos : Pos} (hc : X.calm = true) (hg : Gl X "sorted") (hm : X.mg "sorted" = none) (hg2 : Gl X "set") (hm2 : X.mg "set" = none) (ha : WE X a fa)
    (na : starEach [a] X.env = (false, eval a X.env) :: starEach [] X.env := by rfl) : ME X (.Call (.Name "sorted" p) [.Call (.Name "set" p2) [a] [] q] [] pos) (u1 gSortSet fa) :=
  PE.weak (pe_sortSet hc hg hm hg2 hm2 ha na) fun σ H Q ⟨ρ, d, er, hf, qq⟩ => by
    obtain ⟨x, h1, h2⟩ := Option.bind_eq_some_iff.mp hf
    refine ⟨ρ, x, er, h1, fun v H1 s1 r1 => ?_⟩
    cases x <;> simp only [gSortSet, reduceCtorEq] at h2
    obtain ⟨ss, h3, h4⟩ := Option.bind_eq_some_iff.mp h2
    split at h4
    · rename_i hl
      cases h4
      obtain ⟨b, vs, rfl, hb, rb⟩ := repW_lst r1
      rw [strsOf_eq h3] at rb
      rw [repL_strs rb] at hb
      refine ⟨b, ss, rfl, .inl hb, hl, fun ys p nd hm hs hn => qq _ _ (s1.trans (same_new hn)) ⟨p, _, rfl, s1.free hn, upd_same, ?_⟩⟩
      rw [← uniq_ddT nd hm hs]
      exact repL_strsV
    · cases h4
end
end PL
/-! ### part PO15 -/
namespace PL
open PySem PySem.Spec PyProof.Rows L2 SupX LamX

/-- where the classes stand; txt: what _law_error says of an error's class -/
structure Ad where
  D : Addr
  R : Addr
  eI : Addr
  eS : Addr
  eT : Addr
  eP : Addr
  eL : Addr
  eU : Addr
def Ad.txt (q : Ad) (C : Addr) : Option Str :=
  if C = q.eI then some "contents value" else if C = q.eS then some "pagesize value" else if C = q.eT then some "wording value" else if C = q.eP then some "spot value" else if C = q.eL then some "many value" else if C = q.eU then some "unknown value" else none
def SizeD (K : PySem.W.Frag) (kV : Value) : Prop := ∃ (D0 : Addr) (t : Tok), kV = .ref D0 ∧ PySem.W.nsIn K D0 "size" = some (some (.int 1000 t))
theorem starB_of {fd : FuncData} {p1 pk pv : Str} {D0 : Addr}
    (h0 : ∀ (du x : Value), ∃ (β γ : Type) (k1 : Option Value → Sem β) (k2 : β → Sem γ) (k3 : γ → Sem (List (Str × Value))) (a : β), bindArgs fd ⟨[x], []⟩ = ((nsGet D0 pk >>= k1) >>= k2) >>= k3 ∧ k1 (some du) = pure a ∧ (k2 a >>= k3) = (newTuple [] >>= fun t => pure [(p1, x), (pk, du), (pv, t)]))
    (h1 : ∀ (du x r : Value) (rs : List Value), ∃ (β γ : Type) (k1 : Option Value → Sem β) (k2 : β → Sem γ) (k3 : γ → Sem (List (Str × Value))) (a : β), bindArgs fd ⟨x :: r :: rs, []⟩ = ((nsGet D0 pk >>= k1) >>= k2) >>= k3 ∧ k1 (some du) = pure a ∧ (k2 a >>= k3) = (newTuple (r :: rs) >>= fun t => pure [(p1, x), (pk, du), (pv, t)]))
    (k0 : ∀ (v x : Value), bindArgs fd ⟨[x], [(pk, v)]⟩ = (newTuple [] >>= fun t => pure [(p1, x), (pk, v), (pv, t)])) (k1 : ∀ (v x r : Value) (rs : List Value), bindArgs fd ⟨x :: r :: rs, [(pk, v)]⟩ = (newTuple (r :: rs) >>= fun t => pure [(p1, x), (pk, v), (pv, t)])) : StarB fd p1 pk pv D0 where
  no := fun du x rest => match rest with
    | [] => h0 du x
    | r :: rs => h1 du x r rs
  kw := fun v x rest => match rest with
    | [] => k0 v x
    | r :: rs => k1 v x r rs
theorem starP_of {fd : FuncData} {p1 p2 pv : Str} (h0 : ∀ (x y : Value), bindArgs fd ⟨[x, y], []⟩ = (newTuple [] >>= fun t => pure [(p1, x), (p2, y), (pv, t)])) (h1 : ∀ (x y r : Value) (rs : List Value), bindArgs fd ⟨x :: y :: r :: rs, []⟩ = (newTuple (r :: rs) >>= fun t => pure [(p1, x), (p2, y), (pv, t)])) : StarP fd p1 p2 pv where
  b := fun x y rest => match rest with
    | [] => h0 x y
    | r :: rs => h1 x y r rs
def methOf : Stmt → Nat → Stmt
  | .ClassDef (body := b) .., j => b.getD j (.Pass ⟨0, 0, 0, 0⟩)
  | _, _ => .Pass ⟨0, 0, 0, 0⟩

/-! ### the law -/
/-- the law's def, its code object told -/
structure LawF (K : PySem.W.Frag) (st : Stmt) (f c : Addr) : Prop where
  ex : ∃ (oc : Value) (od : Option Addr) (kV doc pm : Value) (an : Option Addr) (ct : Value) (osl : Array (Option Value)), K.lookup f = some ⟨oc, od, .func (PySem.W.fnOf "law" "law" (defArgs st) (defBody st) (defScope st) .none kV doc pm an (.ref c) ct), osl⟩ ∧ PySem.W.codeIn K (.ref c) "law" = true
def spLawT (K : PySem.W.Frag) (P0 : Addr) : Sp := fun vs H Q _ => ∃ (a : Addr) (ns : List Int), vs = [.ref a] ∧ SqL K H a (ns.map V.int) ∧ ns.length ≤ 63 ∧ H P0 = some (.tbl #[]) ∧ ∀ H', Q (.bl true) H'
def noT (H : Hp) : Hp := fun b => match H b with
  | some (.tbl _) => none
  | o => o
theorem noT_same {H : Hp} : Same (noT H) H := fun b o h => by
  unfold noT at h
  split at h
  · cases h
  · exact h
theorem noT_none {H : Hp} {a : Addr} (h : H a = none) : noT H a = none := by unfold noT; rw [h]
theorem noT_tbl {H : Hp} {b : Addr} {ps : Array Value} : noT H b ≠ some (.tbl ps) := fun h => by
  unfold noT at h
  split at h
  · cases h
  · rename_i o hn
    exact hn ps h
theorem law_start {X : Cx} {P0 : Addr} {qn : Str} {body : List Stmt} {g : Rho → Option Fo} (hN : 1 ≤ X.N.length) (h : ∀ H0, SOs X [(P0, qn)] H0 C8.E0 body g) (hg : ∀ ns : List Int, ns.length ≤ 63 → g (some (.scr ns) :: List.replicate (X.N.length - 1) none) = some (.rt (.bl true))) {Q : VK} {a : Addr} {ns : List Int} {H : Hp}
    (hq : ∀ H', Q (.bl true) H') (hl : ns.length ≤ 63) (hS : SqL X.K H a (ns.map V.int)) (hT : H P0 = some (.tbl #[])) :
    ∃ t, PSs X body t ∧ t { nx := fun _ H' => Q .non H', rt := Q } (L2.start X.N [.ref a]) H := by
  refine ⟨fun E σ H => (∀ H', E.rt (.bl true) H') ∧ σ = L2.start X.N [.ref a] ∧ SqL X.K H a (ns.map V.int) ∧ H P0 = some (.tbl #[]), ⟨fun pins s σ H E I ⟨hq, e, hS, hT⟩ => ?_⟩, hq, rfl, hS, hT⟩
  subst e
  have run : ∀ H, Inv X pins (L2.start X.N [.ref a]) H s → FzL X.K H a (ns.map V.int) → H P0 = some (.tbl #[]) → wpAny (model X.prog X.w) X.A (execs body X.env) (SP X pins E) X.xe s := fun H I hF hT => by
    have rl : RepL X.K H [D.scr ns] [V.ref a] := RepL.one (by simp only [RepF]; exact ⟨a, rfl, hF⟩)
    have er := ers_start (N := X.N) rl
    refine (h (noT H)).run pins s _ H E I ⟨_, _, ⟨⟨er.toER, noT_same, fun i ds b q1 q2 => noT_none (er.fresh i ds b q1 q2), er.apart, fun i o c ds b q1 q2 => noT_none (er.ofresh i o c ds b q1 q2), er.oapart⟩, ?_, fun _ b ps => noT_tbl⟩, hg ns hl, fun v H' _ r => ?_⟩
    · intro p hp
      rw [List.mem_singleton.mp hp]
      exact TabS.nil hT
    · have r : RepF X.K H' (.bl true) v := r
      rw [repF_blv r]
      exact hq H'
  rcases hS with (hS | ⟨o, hS⟩) | hS
  · obtain ⟨od, I2⟩ := I.lock hS trivial
    refine run _ I2 (.inl ⟨od, upd_same⟩) ?_
    rw [upd_ne]; exact hT
    rintro rfl
    rw [hT] at hS; cases hS
  · exact run H I (.inl ⟨o, hS⟩) hT
  · exact run H I (.inr hS) hT
end PL
/-! ### part PO16 -/
namespace PL
open PySem PySem.Spec PyProof.Rows L2 SupX LamX
theorem sw_trueD {kx vx : Expr} {gs : List Comprehension} {scope : Scope} {pos py : Pos} {y : Str} {l : Nat} {env : Env} (hk : env.scope.kind = .function) (hy : env.scope.names.lookup y = some .local) (hl : (py.line == pos.line) = true)
    (ha : (scope.names.any fun (n, k) => n == y && (k == .local || k == .cell)) = false) : swapsWith (.DictComp kx vx gs scope pos) (some (.Name y py)) l env = pure true := by
  have ky : env.kindOf y = some .local := hy
  have hb : env.blockKind = .function := by unfold Env.blockKind; rw [hk]; rfl
  unfold swapsWith
  simp only [hb, ky, ha, Expr.pos, hl]
  rfl
end PL
/-! ### part MiO -/
namespace PLaw
open PySem L2 PL
noncomputable section
/-- is_integer: 0 value, 1 low, 2 high -/
def B_is_integer : Rho → Option Fl :=
  (gSeq (gRet (vAnd (u1 (isT "int") (fVarW 0)) (vAnd (vb (nb (tb (u1 (isT "bool") (fVarW 0))))) (b3 gLe gLe (fVarW 1) (fVarW 0) (fVarW 2)))))
  gNil)
def M_is_integer : List D → Option D := runF 3 B_is_integer
/-- is_name: 0 value, 1 sign -/
def B_is_name : Rho → Option Fl :=
  (gSeq (gRet (vAnd (u1 (isT "str") (fVarW 0)) (vAnd (b3 gLe gLe (fC (.int 1)) (u1 gLen (fVarW 0)) (fC (.int 8))) (u1 gAll (fz (fComp (fSeq (fVar 0)) [1] (tName 1) cYes (b2 gIn (fVarW 1) (fC (.str "abcdefghijklmnopqrstuvwxyz")))))))))
  gNil)
def M_is_name : List D → Option D := runF 2 B_is_name
/-- is_item: 0 value -/
def B_is_item : Rho → Option Fl :=
  (gSeq (gIf (fOr (nb (tb (u1 (isT "tuple") (fVarW 0)))) (fOr (nb (tb (b3 gLe gLe (fC (.int 1)) (u1 gLen (fVarW 0)) (fC (.int 2))))) (nb (tb (u1 (isT "str") (b2 gIdx (fVarW 0) (fC (.int 0)))))))) (gSeq (gRet (fC (.bl false)))
  gNil) gNil)
  (gSeq (gIf (tb (b2 gEq (u1 gLen (fVarW 0)) (fC (.int 1)))) (gSeq (gRet (b2 gEq (b2 gIdx (fVarW 0) (fC (.int 0))) (fC (.str "break"))))
  gNil) gNil)
  (gSeq (gIf (tb (b2 gEq (b2 gIdx (fVarW 0) (fC (.int 0))) (fC (.str "text")))) (gSeq (gRet (fCall 3 M_is_integer (fsCons (b2 gIdx (fVarW 0) (fC (.int 1))) (fsCons (fC (.int 0)) (fsCons (fC (.int 1000000)) fsNil)))))
  gNil) gNil)
  (gSeq (gRet (vAnd (b2 gIn (b2 gIdx (fVarW 0) (fC (.int 0))) (fTup (fsCons (fC (.str "mark")) (fsCons (fC (.str "ref")) fsNil)))) (fz (fCall 1 M_is_name (fsCons (b2 gIdx (fVarW 0) (fC (.int 1))) fsNil)))))
  gNil))))
def M_is_item : List D → Option D := runF 1 B_is_item
/-- is_document: 0 value, 1 item, 2 names -/
def B_is_document : Rho → Option Fl :=
  (gSeq (gIf (fOr (nb (tb (u1 (isT "tuple") (fVarW 0)))) (fOr (nb (tb (b3 gLe gLe (fC (.int 1)) (u1 gLen (fVarW 0)) (fC (.int 30))))) (nb (tb (u1 gAll (fz (fComp (fSeq (fVar 0)) [1] (tName 1) cYes (fz (fCall 1 M_is_item (fsCons (fVar 1) fsNil)))))))))) (gSeq (gRet (fC (.bl false)))
  gNil) gNil)
  (gSeq (gSet 2 (fz (fCall 1 M_mark_names (fsCons (fVar 0) fsNil))))
  (gSeq (gIf (fOr (tb (b2 gGt (u1 gLen (fVarW 2)) (fC (.int 8)))) (tb (b2 gLt (u1 gLenSet (fVarW 2)) (u1 gLen (fVarW 2))))) (gSeq (gRet (fC (.bl false)))
  gNil) gNil)
  (gSeq (gRet (u1 gAll (fz (fComp (fSeq (fVar 0)) [1] (tName 1) (tb (b2 gEq (b2 gIdx (fVarW 1) (fC (.int 0))) (fC (.str "ref")))) (b2 gIn (b2 gIdx (fVarW 1) (fC (.int 1))) (fVarW 2))))))
  gNil))))
def M_is_document : List D → Option D := runF 3 B_is_document
/-- is_numbering: 0 document, 1 value, 2 number -/
def B_is_numbering : Rho → Option Fl :=
  (gSeq (gIf (fOr (nb (tb (u1 (isT "tuple") (fVarW 1)))) (tb (b2 gNe (u1 gLen (fVarW 1)) (u1 gLen (fz (fCall 1 M_mark_names (fsCons (fVar 0) fsNil))))))) (gSeq (gRet (fC (.bl false)))
  gNil) gNil)
  (gSeq (gRet (u1 gAll (fz (fComp (fSeq (fVar 1)) [2] (tName 2) cYes (fz (fCall 3 M_is_integer (fsCons (fVar 2) (fsCons (fC (.int 1)) (fsCons (fC (.int 1000000000)) fsNil)))))))))
  gNil))
def M_is_numbering : List D → Option D := runF 3 B_is_numbering
/-- _law_is_integer: 0 value, 1 low, 2 high -/
def B__law_is_integer : Rho → Option Fl :=
  (gSeq (gRet (vAnd (u1 (isT "int") (fVarW 0)) (vAnd (vb (nb (tb (u1 (isT "bool") (fVarW 0))))) (b3 gLe gLe (fVarW 1) (fVarW 0) (fVarW 2)))))
  gNil)
def M__law_is_integer : List D → Option D := runF 3 B__law_is_integer
/-- _law_error: 0 e, 1 classes, 2 words, 3 word, 4 good -/
def B__law_error (a : Addr) (b_eI b_eS b_eT b_eP b_eL b_eU : Bool) : Rho → Option Fl :=
  (gSeq (gSet 1 (fLst (fsCons (fIsE 0 a b_eI) (fsCons (fIsE 0 a b_eS) (fsCons (fIsE 0 a b_eT) fsNil)))))
  (gSeq (gSet 1 (b2 gAdd (fVarW 1) (fz (fLst (fsCons (fIsE 0 a b_eP) (fsCons (fIsE 0 a b_eL) (fsCons (fIsE 0 a b_eU) fsNil)))))))
  (gSeq (gSet 2 (fz (fLst (fsCons (fC (.str "contents")) (fsCons (fC (.str "pagesize")) (fsCons (fC (.str "wording")) (fsCons (fC (.str "spot")) (fsCons (fC (.str "many")) (fsCons (fC (.str "unknown")) (fsCons (fC (.str "value")) fsNil))))))))))
  (gSeq (gApp 1 (fIsE 0 a true))
  (gSeq (gIceT 1 (gRet (b2 gJoin (fC (.str " ")) (fz (fComp (fZipL (fVar 2) (fVar 1)) [3, 4] (tTup 2 (tCons (tName 3) (tCons (tName 4) tNil))) (tb (fVar 4)) (fVar 3))))))
  gNil)))))
end
end PLaw
/-! ### part PT0 -/
namespace PL
open PySem L2

/-! ### the mirrors' words, one step each -/
section
variable {ρ : Rho} {g g1 g2 : Rho → Option Fl} {f fa fb fc fe : Rho → Option D} {c c2 : Rho → Option Bool} {i j l n : Nat} {d : D} {t : Tgt} {src : Rho → Option (List D)} {fs : Rho → Option (List D)} {F : List D → Option D}
@[simp] theorem e_seq : gSeq g1 g2 ρ = (g1 ρ).bind (thenG g2) := (rfl)
@[simp] theorem e_then : thenG g2 (.nx ρ) = g2 ρ := (rfl)
@[simp] theorem e_thenR : thenG g2 (.rt d) = some (.rt d) := (rfl)
@[simp] theorem e_thenB : thenG g2 (.bk ρ) = some (.bk ρ) := (rfl)
@[simp] theorem e_thenC : thenG g2 (.ct ρ) = some (.ct ρ) := (rfl)
@[simp] theorem e_nil : gNil ρ = some (.nx ρ) := (rfl)
@[simp] theorem e_set : gSet i f ρ = (f ρ).map fun d => .nx (ρ.set i (some d)) := (rfl)
@[simp] theorem e_par2 : gPar2 i j fa fb ρ = (fa ρ).bind fun x => (fb ρ).map fun y => .nx ((ρ.set i (some x)).set j (some y)) := (rfl)
@[simp] theorem e_par3 : gPar3 i j l fa fb fc ρ = (fa ρ).bind fun x => (fb ρ).bind fun y => (fc ρ).map fun z => .nx (((ρ.set i (some x)).set j (some y)).set l (some z)) := (rfl)
@[simp] theorem e_ret : gRet f ρ = (f ρ).map .rt := (rfl)
@[simp] theorem e_if : gIf c g1 g2 ρ = (c ρ).bind fun k => if k = true then g1 ρ else g2 ρ := (rfl)
@[simp] theorem e_asg : gAsg t f ρ = (f ρ).bind fun d => (t d ρ).map .nx := (rfl)
@[simp] theorem e_for : gFor src t g ρ = (src ρ).bind fun l => forGo t g l ρ := (rfl)
theorem e_while : gWhile c g ρ = whileGo c g FU ρ := (rfl)
@[simp] theorem e_fz : fz f ρ = (f ρ).map frzD := (rfl)
@[simp] theorem e_var : fVar i ρ = (ρ[i]?.join).bind noOpn := (rfl)
@[simp] theorem e_varW : fVarW i ρ = (ρ[i]?.join).map frzD := (rfl)
@[simp] theorem e_c : fC d ρ = some d := (rfl)
@[simp] theorem e_fsNil : fsNil ρ = some [] := (rfl)
@[simp] theorem e_fsCons : fsCons f fs ρ = (f ρ).bind fun d => (fs ρ).map (d :: ·) := (rfl)
@[simp] theorem e_tup : fTup fs ρ = (fs ρ).bind fun ds => if ds.length ≤ 1000 then some (.tup ds) else none := (rfl)
@[simp] theorem e_lst : fLst fs ρ = (fs ρ).bind fun ds => if ds.length ≤ 1000 then some (.opn ds) else none := (rfl)
@[simp] theorem e_b2 {g : D → D → Option D} : b2 g fa fb ρ = (fa ρ).bind fun x => (fb ρ).bind fun y => g x y := (rfl)
@[simp] theorem e_u1 {g : D → Option D} : u1 g fa ρ = (fa ρ).bind g := (rfl)
@[simp] theorem e_tb : tb f ρ = (f ρ).bind asB := (rfl)
@[simp] theorem e_vb : vb c ρ = (c ρ).map .bl := (rfl)
@[simp] theorem e_nb : nb c ρ = (c ρ).map (!·) := (rfl)
@[simp] theorem e_and : fAnd c c2 ρ = (c ρ).bind fun k => if k = true then c2 ρ else some false := (rfl)
@[simp] theorem e_or : fOr c c2 ρ = (c ρ).bind fun k => if k = true then some true else c2 ρ := (rfl)
@[simp] theorem e_vand : vAnd fa fb ρ = (tb fa ρ).bind fun k => if k = true then fb ρ else some (.bl false) := (rfl)
@[simp] theorem e_vor : vOr fa fb ρ = (tb fa ρ).bind fun k => if k = true then some (.bl true) else fb ρ := (rfl)
@[simp] theorem e_ifx : fIf c fa fb ρ = (c ρ).bind fun k => if k = true then fa ρ else fb ρ := (rfl)
@[simp] theorem e_neg : fNeg fa ρ = (fa ρ).bind fun x => match x with | .int i => some (.int (-i)) | _ => none := (rfl)
@[simp] theorem e_oNone : oNone ρ = some none := (rfl)
@[simp] theorem e_oSome : oSome f ρ = (f ρ).bind fun d => match d with | .int i => some (some i) | _ => none := (rfl)
@[simp] theorem e_sl {fl fh : Rho → Option (Option Int)} : fSl fa fl fh ρ = (fa ρ).bind fun x => (fl ρ).bind fun l => (fh ρ).bind fun h => gSl x l h := (rfl)
@[simp] theorem e_fseq : fSeq f ρ = (f ρ).bind asSeq := (rfl)
@[simp] theorem e_rng {g : List D → Option (List D)} : fRng g fs ρ = (fs ρ).bind g := (rfl)
@[simp] theorem e_zip : fZip fa fb ρ = (fa ρ).bind fun x => (fb ρ).bind fun y => zip2 x y := (rfl)
@[simp] theorem e_comp {vs : List Nat} : fComp src vs t c fe ρ = (src ρ).bind fun l => if small l.length then (compGo t c fe (wipeR ρ vs) l).map .opn else none := (rfl)
@[simp] theorem e_dcomp {vs : List Nat} {ek ev : Rho → Option D} : fDcomp src vs t c ek ev ρ = (src ρ).bind fun l => if small l.length then (dcGo t c ek ev (wipeR ρ vs) l []).map .dic else none := (rfl)
@[simp] theorem e_call : fCall n F fs ρ = (fs ρ).bind fun ds => if ds.length = n then F ds else none := (rfl)
@[simp] theorem e_args {g : List D → Option D} : fArgs g fs ρ = (fs ρ).bind g := (rfl)
@[simp] theorem e_b3 {g g' : D → D → Option D} : b3 g g' fa fb fc ρ = (fa ρ).bind fun x => (fb ρ).bind fun y => (g x y).bind fun z => (asB z).bind fun k => if k = true then (fc ρ).bind fun w => g' y w else some (.bl false) := (rfl)
@[simp] theorem e_yes : cYes ρ = some true := (rfl)
@[simp] theorem e_tname : tName i d ρ = some (ρ.set i (some d)) := (rfl)
@[simp] theorem e_ttup {ts : List D → Rho → Option Rho} {ds : List D} : tTup n ts (.tup ds) ρ = if ds.length = n then ts ds ρ else none := (rfl)
@[simp] theorem e_tcons {ts : List D → Rho → Option Rho} {r : List D} : tCons t ts (d :: r) ρ = (t d ρ).bind (ts r) := (rfl)
@[simp] theorem e_tnil : tNil [] ρ = some ρ := (rfl)
@[simp] theorem e_app : gApp i f ρ = (f ρ).bind fun d => match ρ[i]? with | some (some (.opn ds)) => if ds.length < 16777216 then some (.nx (ρ.set i (some (.opn (ds ++ [d]))))) else none | _ => none := (rfl)
@[simp] theorem e_aug : gAug i f ρ = match ρ[i]?, f ρ with | some (some (.int a)), some (.int b) => some (.nx (ρ.set i (some (.int (a + b))))) | _, _ => none := (rfl)
@[simp] theorem e_retV : gRetV i ρ = match ρ[i]? with | some (some (.opn ds)) => some (.rt (.opn ds)) | _ => none := (rfl)
end
@[simp] theorem g_zero {α : Type} {a : α} {l : List α} : (a :: l)[0]? = some a := (rfl)
theorem run_eq {N : Nat} {g : Rho → Option Fl} {ds : List D} : runF N g ds = match g (ds.map some ++ List.replicate (N - ds.length) none) with | some (.rt d) => some d | some (.nx _) => some .non | _ => none := (rfl)
theorem run_rt {N : Nat} {g : Rho → Option Fl} {ds : List D} {d : D} (h : g (ds.map some ++ List.replicate (N - ds.length) none) = some (.rt d)) : runF N g ds = some d := by rw [run_eq, h]
theorem run_nx {N : Nat} {g : Rho → Option Fl} {ds : List D} {ρ : Rho} (h : g (ds.map some ++ List.replicate (N - ds.length) none) = some (.nx ρ)) : runF N g ds = some .non := by rw [run_eq, h]

/-! ### loops -/
theorem forGo_inv {t : Tgt} {b : Rho → Option Fl} (P : Nat → Rho → Prop) {l : List D} {ρ : Rho} (h0 : P 0 ρ)
    (hs : ∀ i d ρ, l[i]? = some d → P i ρ → ∃ ρ1 ρ2, t d ρ = some ρ1 ∧ b ρ1 = some (.nx ρ2) ∧ P (i + 1) ρ2) : ∃ ρ', forGo t b l ρ = some (.nx ρ') ∧ P l.length ρ' := by
  have gen : ∀ (n i : Nat) (ρ : Rho), l.length - i = n → i ≤ l.length → P i ρ → ∃ ρ', forGo t b (l.drop i) ρ = some (.nx ρ') ∧ P l.length ρ' := by
    intro n
    induction n with
    | zero =>
      intro i ρ hn hi hp
      have : i = l.length := by omega
      subst this
      rw [List.drop_length]
      exact ⟨ρ, rfl, hp⟩
    | succ n ih =>
      intro i ρ hn hi hp
      have hlt : i < l.length := by omega
      obtain ⟨ρ1, ρ2, h1, h2, h3⟩ := hs i l[i] ρ (List.getElem?_eq_getElem hlt) hp
      obtain ⟨ρ', h4, h5⟩ := ih (i + 1) ρ2 (by omega) (by omega) h3
      refine ⟨ρ', ?_, h5⟩
      rw [List.drop_eq_getElem_cons hlt]
      simp only [forGo, h1, h2, Option.bind_some]
      exact h4
  obtain ⟨ρ', h1, h2⟩ := gen l.length 0 ρ (by omega) (by omega) h0
  exact ⟨ρ', by simpa using h1, h2⟩
/-- over a typed list -/
theorem forGo_typed {t : Tgt} {b : Rho → Option Fl} {α : Type} (f : α → D) (P : Nat → Rho → Prop) {xs : List α} {ρ : Rho} (h0 : P 0 ρ)
    (hs : ∀ i x ρ, xs[i]? = some x → P i ρ → ∃ ρ1 ρ2, t (f x) ρ = some ρ1 ∧ b ρ1 = some (.nx ρ2) ∧ P (i + 1) ρ2) : ∃ ρ', forGo t b (xs.map f) ρ = some (.nx ρ') ∧ P xs.length ρ' := by
  have := forGo_inv (t := t) (b := b) P (l := xs.map f) h0 fun i d ρ hd hp => by
    rw [List.getElem?_map] at hd
    obtain ⟨x, h1, rfl⟩ := Option.map_eq_some_iff.mp hd
    exact hs i x ρ h1 hp
  rwa [List.length_map] at this
theorem forGo_cons {t : Tgt} {b : Rho → Option Fl} {d : D} {r : List D} {ρ ρ1 ρ2 : Rho} (h1 : t d ρ = some ρ1) (h2 : b ρ1 = some (.nx ρ2)) : forGo t b (d :: r) ρ = forGo t b r ρ2 := by
  simp only [forGo, h1, h2, Option.bind_some]
theorem whileGo_mono {c : Rho → Option Bool} {b : Rho → Option Fl} {fl : Fl} : ∀ {n m : Nat} {ρ : Rho}, whileGo c b n ρ = some fl → n ≤ m → whileGo c b m ρ = some fl
  | 0, _, _, h, _ => by simp [whileGo] at h
  | n + 1, 0, _, _, hm => by omega
  | n + 1, m + 1, ρ, h, hm => by
    simp only [whileGo] at h ⊢
    cases hc : c ρ with
    | none => rw [hc] at h; simp at h
    | some k =>
      rw [hc] at h
      simp only [Option.bind_some] at h ⊢
      cases k with
      | false => simpa using h
      | true =>
        simp only [if_true] at h ⊢
        cases hb : b ρ with
        | none => rw [hb] at h; simp at h
        | some fl2 =>
          rw [hb] at h
          simp only [Option.bind_some] at h ⊢
          cases fl2 with
          | nx ρ2 => exact whileGo_mono h (by omega)
          | ct ρ2 => exact whileGo_mono h (by omega)
          | bk ρ2 => exact h
          | rt d => exact h
theorem whileGo_succ {c : Rho → Option Bool} {b : Rho → Option Fl} {n : Nat} {ρ : Rho} : whileGo c b (n + 1) ρ = (c ρ).bind fun k => if k = true then (b ρ).bind fun fl => match fl with
    | .nx ρ2 => whileGo c b n ρ2
    | .ct ρ2 => whileGo c b n ρ2
    | .bk ρ2 => some (.nx ρ2)
    | .rt d => some (.rt d) else some (.nx ρ) := rfl
/-- a while that does not begin -/
theorem while_no {c : Rho → Option Bool} {b : Rho → Option Fl} {ρ : Rho} (h : c ρ = some false) : gWhile c b ρ = some (.nx ρ) := by
  show whileGo c b (999999999 + 1) ρ = _
  rw [whileGo_succ, h]
  rfl
/-- a while by a measure -/
theorem whileGo_inv {c : Rho → Option Bool} {b : Rho → Option Fl} (P : Nat → Rho → Prop) (Z : Rho → Prop)
    (hs : ∀ n ρ, P n ρ → (c ρ = some false ∧ Z ρ) ∨ (c ρ = some true ∧ ∃ ρ2 m, m < n ∧ b ρ = some (.nx ρ2) ∧ P m ρ2)) : ∀ (n : Nat) (ρ : Rho), P n ρ → ∃ ρ', whileGo c b (n + 1) ρ = some (.nx ρ') ∧ Z ρ' := by
  intro n
  induction n using Nat.strongRecOn with
  | ind n ih =>
    intro ρ hp
    rcases hs n ρ hp with ⟨h1, h2⟩ | ⟨h1, ρ2, m, hm, h2, h3⟩
    · exact ⟨ρ, by simp [whileGo, h1], h2⟩
    · obtain ⟨ρ', h4, h5⟩ := ih m hm ρ2 h3
      refine ⟨ρ', ?_, h5⟩
      simp only [whileGo, h1, h2, Option.bind_some, if_true]
      exact whileGo_mono h4 (by omega)
theorem while_inv {c : Rho → Option Bool} {b : Rho → Option Fl} (P : Nat → Rho → Prop) (Z : Rho → Prop) {n : Nat} {ρ : Rho} (h0 : P n ρ) (hn : n < FU)
    (hs : ∀ n ρ, P n ρ → (c ρ = some false ∧ Z ρ) ∨ (c ρ = some true ∧ ∃ ρ2 m, m < n ∧ b ρ = some (.nx ρ2) ∧ P m ρ2)) : ∃ ρ', gWhile c b ρ = some (.nx ρ') ∧ Z ρ' := by
  obtain ⟨ρ', h1, h2⟩ := whileGo_inv P Z hs n ρ h0
  exact ⟨ρ', whileGo_mono h1 (by omega), h2⟩
/-- a comprehension over a typed list -/
theorem compGo_typed {t : Tgt} {c : Rho → Option Bool} {e : Rho → Option D} {ρ : Rho} {α : Type} (f : α → D) (r1 : α → Rho) (p : α → Bool) (h : α → D) : ∀ (xs : List α), (∀ x ∈ xs, t (f x) ρ = some (r1 x)) → (∀ x ∈ xs, c (r1 x) = some (p x)) → (∀ x ∈ xs, p x = true → e (r1 x) = some (h x)) →
    compGo t c e ρ (xs.map f) = some ((xs.filter p).map h)
  | [], _, _, _ => rfl
  | x :: xs, h1, h2, h3 => by
    have ih := compGo_typed f r1 p h xs (fun y hy => h1 y (List.mem_cons_of_mem _ hy)) (fun y hy => h2 y (List.mem_cons_of_mem _ hy)) fun y hy => h3 y (List.mem_cons_of_mem _ hy)
    simp only [List.map_cons, compGo, h1 x List.mem_cons_self, h2 x List.mem_cons_self, Option.bind_some]
    cases hp : p x with
    | false => simp [hp, ih]
    | true => simp [hp, ih, h3 x List.mem_cons_self hp]
theorem zipD_map {α β : Type} (f : α → D) (g : β → D) : ∀ (xs : List α) (ys : List β), zipD (xs.map f) (ys.map g) = (xs.zip ys).map fun p => .tup [f p.1, g p.2]
  | [], ys => by simp [zipD]
  | _ :: _, [] => by simp [zipD]
  | x :: xs, y :: ys => by simp [zipD, zipD_map f g xs ys]
end PL
/-! ### part PT1 -/
namespace PL
open PySem L2

/-! ### documents -/
inductive Item where
  | text (n : Int) | mark (s : Str) | ref (s : Str) | brk
abbrev Doc := List Item
def itemD : Item → D
  | .text n => .tup [.str "text", .int n]
  | .mark s => .tup [.str "mark", .str s]
  | .ref s => .tup [.str "ref", .str s]
  | .brk => .tup [.str "break"]
def docD (d : Doc) : D := .tup (d.map itemD)
def numD (ν : List Int) : D := .tup (ν.map .int)
def Item.isMark : Item → Bool
  | .mark _ => true
  | _ => false
def Item.isRef : Item → Bool
  | .ref _ => true
  | _ => false
def Item.isText : Item → Bool
  | .text _ => true
  | _ => false
def Item.isBrk : Item → Bool
  | .brk => true
  | _ => false
def Item.name : Item → Str
  | .mark s => s
  | .ref s => s
  | _ => "break"
/-- the marks' names in order -/
def names (d : Doc) : List Str := (d.filter Item.isMark).map Item.name
def strOk (s : Str) : Bool := s.cps.all (· < 0x110000)
theorem okS {n : Nat} {s : Str} : okD n (.str s) = strOk s := by cases n <;> simp only [okD, strOk]
theorem okI {n : Nat} {i : Int} : okD n (.int i) = true := by cases n <;> simp only [okD]
theorem okB {n : Nat} {i : Bool} : okD n (.bl i) = true := by cases n <;> simp only [okD]
theorem okN {n : Nat} : okD n .non = true := by cases n <;> simp only [okD]
theorem okL_iff {n : Nat} : ∀ {xs : List D}, okL n xs = true ↔ ∀ x ∈ xs, okD n x = true
  | [] => by simp [okL]
  | x :: xs => by simp [okL, okL_iff (xs := xs)]
theorem okT {n : Nat} {xs : List D} : okD (n + 1) (.tup xs) = true ↔ ∀ x ∈ xs, okD n x = true := by
  rw [← okL_iff]; simp only [okD]
theorem okLs {n : Nat} {xs : List D} : okD (n + 1) (.lst xs) = true ↔ ∀ x ∈ xs, okD n x = true := by
  rw [← okL_iff]; simp only [okD]
theorem gEq_eq {x y : D} (h1 : okD DEEP x = true) (h2 : okD DEEP y = true) : gEq x y = some (.bl (eqD x y)) := by unfold gEq; rw [h1, h2]; rfl
theorem gNe_eq {x y : D} (h1 : okD DEEP x = true) (h2 : okD DEEP y = true) : gNe x y = some (.bl (!eqD x y)) := by unfold gNe; rw [h1, h2]; rfl
theorem eqD_str {a b : Str} : eqD (.str a) (.str b) = decide (a = b) := by
  simp only [eqD]
  rw [Bool.eq_iff_iff]; simp
theorem eqD_int {a b : Int} : eqD (.int a) (.int b) = decide (a = b) := by
  simp only [eqD]
  rw [Bool.eq_iff_iff]; simp
theorem s_text : strOk "text" = true := by decide +kernel
theorem s_mark : strOk "mark" = true := by decide +kernel
theorem s_ref : strOk "ref" = true := by decide +kernel
theorem s_break : strOk "break" = true := by decide +kernel
def kind : Item → Str
  | .text _ => "text"
  | .mark _ => "mark"
  | .ref _ => "ref"
  | .brk => "break"
theorem idx0 (it : Item) : gIdx (itemD it) (.int 0) = some (.str (kind it)) := by cases it <;> rfl
theorem idx1_text {n : Int} : gIdx (itemD (.text n)) (.int 1) = some (.int n) := (rfl)
theorem idx1_mark {n : Str} : gIdx (itemD (.mark n)) (.int 1) = some (.str n) := (rfl)
theorem idx1_ref {n : Str} : gIdx (itemD (.ref n)) (.int 1) = some (.str n) := (rfl)
theorem kindOk (it : Item) : strOk (kind it) = true := by
  cases it
  · exact s_text
  · exact s_mark
  · exact s_ref
  · exact s_break
theorem lit_text : decide (("text" : Str) = "text") = true ∧ decide (("text" : Str) = "mark") = false ∧ decide (("text" : Str) = "ref") = false ∧ decide (("text" : Str) = "break") = false := by decide +kernel
theorem lit_mark : decide (("mark" : Str) = "text") = false ∧ decide (("mark" : Str) = "mark") = true ∧ decide (("mark" : Str) = "ref") = false ∧ decide (("mark" : Str) = "break") = false := by decide +kernel
theorem lit_ref : decide (("ref" : Str) = "text") = false ∧ decide (("ref" : Str) = "mark") = false ∧ decide (("ref" : Str) = "ref") = true ∧ decide (("ref" : Str) = "break") = false := by decide +kernel
theorem lit_break : decide (("break" : Str) = "text") = false ∧ decide (("break" : Str) = "mark") = false ∧ decide (("break" : Str) = "ref") = false ∧ decide (("break" : Str) = "break") = true := by decide +kernel
theorem kind_eq (it : Item) : decide (kind it = "text") = it.isText ∧ decide (kind it = "mark") = it.isMark ∧ decide (kind it = "ref") = it.isRef ∧ decide (kind it = "break") = it.isBrk := by
  cases it
  · exact lit_text
  · exact lit_mark
  · exact lit_ref
  · exact lit_break
theorem kq {f : Rho → Option D} {ρ : Rho} {it : Item} (h : f ρ = some (itemD it)) :
    b2 gEq (b2 gIdx f (fC (.int 0))) (fC (.str "text")) ρ = some (.bl it.isText) ∧ b2 gEq (b2 gIdx f (fC (.int 0))) (fC (.str "mark")) ρ = some (.bl it.isMark) ∧
    b2 gEq (b2 gIdx f (fC (.int 0))) (fC (.str "ref")) ρ = some (.bl it.isRef) ∧ b2 gEq (b2 gIdx f (fC (.int 0))) (fC (.str "break")) ρ = some (.bl it.isBrk) := by
  obtain ⟨k1, k2, k3, k4⟩ := kind_eq it
  have go : ∀ (z : Str) (b : Bool), strOk z = true → decide (kind it = z) = b → b2 gEq (b2 gIdx f (fC (.int 0))) (fC (.str z)) ρ = some (.bl b) := fun z b hz hb => by
    simp only [e_b2, h, e_c, Option.bind_some, idx0]
    rw [gEq_eq (by rw [okS]; exact kindOk it) (by rw [okS]; exact hz), eqD_str, hb]
  exact ⟨go _ _ s_text k1, go _ _ s_mark k2, go _ _ s_ref k3, go _ _ s_break k4⟩

/-! ### characters and pages -/
/-- decimal digits of a number's text -/
def dig (n : Int) : Int := ((toString n : Str).length : Nat)
/-- what stands behind an item that begins at p; len: how long a name's number is -/
def stepP (size : Int) (len : Str → Int) (p : Int) : Item → Int
  | .text n => p + n
  | .mark _ => p
  | .ref s => p + len s
  | .brk => (p + size - 1) / size * size
def placesL (size : Int) (len : Str → Int) : Int → Doc → List Int
  | _, [] => []
  | p, it :: r => p :: placesL size len (stepP size len p it) r
def endP (size : Int) (len : Str → Int) : Int → Doc → Int
  | p, [] => p
  | p, it :: r => endP size len (stepP size len p it) r
/-- the number that a name has -/
def numOf : List Str → List Int → Str → Int
  | n :: ns, v :: vs, s => if n = s then v else numOf ns vs s
  | _, _, _ => 0
def lenOf (d : Doc) (ν : List Int) (s : Str) : Int := dig (numOf (names d) ν s)
def startsT (d : Doc) (size : Int) (ν : List Int) : List Int := placesL size (lenOf d ν) 0 d
def pagesOf (size : Int) : Doc → List Int → List Int
  | .mark _ :: r, p :: ps => (p / size + 1) :: pagesOf size r ps
  | _ :: r, _ :: ps => pagesOf size r ps
  | _, _ => []
def pagesT (d : Doc) (size : Int) (ν : List Int) : List Int := pagesOf size d (startsT d size ν)
theorem placesL_len (size : Int) (len : Str → Int) : ∀ (d : Doc) (p : Int), (placesL size len p d).length = d.length
  | [], _ => rfl
  | it :: r, p => by simp [placesL, placesL_len size len r]

/-- a document: names that differ, every reference has its mark, texts are not negative; sizes that are let in -/
structure WF (d : Doc) : Prop where
  nd : (names d).Nodup
  refs : ∀ s, Item.ref s ∈ d → s ∈ names d
  texts : ∀ n, Item.text n ∈ d → 0 ≤ n ∧ n ≤ 1000000
  sok : ∀ it ∈ d, strOk it.name = true
  len : d.length ≤ 100000
/-- a numbering's numbers -/
def NumOk (k : Nat) (ν : List Int) : Prop := ν.length = k ∧ ∀ n ∈ ν, 0 ≤ n ∧ n ≤ 1000000000000
end PL
/-! ### part PT2 -/
namespace PL
open PySem L2 PLaw

/-! ### step words over data -/
@[simp] theorem no_int {i : Int} : noOpn (.int i) = some (.int i) := (rfl)
@[simp] theorem no_str {i : Str} : noOpn (.str i) = some (.str i) := (rfl)
@[simp] theorem no_bl {i : Bool} : noOpn (.bl i) = some (.bl i) := (rfl)
@[simp] theorem no_non : noOpn .non = some .non := (rfl)
@[simp] theorem no_tup {i : List D} : noOpn (.tup i) = some (.tup i) := (rfl)
@[simp] theorem no_lst {i : List D} : noOpn (.lst i) = some (.lst i) := (rfl)
@[simp] theorem no_scr {i : List Int} : noOpn (.scr i) = some (.scr i) := (rfl)
@[simp] theorem no_item {i : Item} : noOpn (itemD i) = some (itemD i) := by cases i <;> rfl
@[simp] theorem no_doc {i : Doc} : noOpn (docD i) = some (docD i) := (rfl)
@[simp] theorem no_num {i : List Int} : noOpn (numD i) = some (numD i) := (rfl)
@[simp] theorem fr_int {i : Int} : frzD (.int i) = .int i := (rfl)
@[simp] theorem fr_str {i : Str} : frzD (.str i) = .str i := (rfl)
@[simp] theorem fr_bl {i : Bool} : frzD (.bl i) = .bl i := (rfl)
@[simp] theorem fr_non : frzD .non = .non := (rfl)
@[simp] theorem fr_tup {i : List D} : frzD (.tup i) = .tup i := (rfl)
@[simp] theorem fr_lst {i : List D} : frzD (.lst i) = .lst i := (rfl)
@[simp] theorem fr_opn {i : List D} : frzD (.opn i) = .lst i := (rfl)
@[simp] theorem fr_scr {i : List Int} : frzD (.scr i) = .scr i := (rfl)
@[simp] theorem fr_dic {i : List (Key × D)} : frzD (.dic i) = .dic i := (rfl)
@[simp] theorem fr_item {i : Item} : frzD (itemD i) = itemD i := by cases i <;> rfl
@[simp] theorem fr_doc {i : Doc} : frzD (docD i) = docD i := (rfl)
@[simp] theorem fr_num {i : List Int} : frzD (numD i) = numD i := (rfl)
@[simp] theorem sq_doc {i : Doc} : asSeq (docD i) = some (i.map itemD) := (rfl)
@[simp] theorem sq_num {i : List Int} : asSeq (numD i) = some (i.map .int) := (rfl)
@[simp] theorem sq_lst {i : List D} : asSeq (.lst i) = some i := (rfl)
@[simp] theorem sq_tup {i : List D} : asSeq (.tup i) = some i := (rfl)
@[simp] theorem ns_doc {i : Doc} : noStr (docD i) = true := (rfl)
@[simp] theorem ns_num {i : List Int} : noStr (numD i) = true := (rfl)
@[simp] theorem ns_lst {i : List D} : noStr (.lst i) = true := (rfl)
@[simp] theorem ns_tup {i : List D} : noStr (.tup i) = true := (rfl)
@[simp] theorem ix_item0 {i : Item} : gIdx (itemD i) (.int 0) = some (.str (kind i)) := idx0 i
@[simp] theorem ix_text {n : Int} : gIdx (itemD (.text n)) (.int 1) = some (.int n) := (rfl)
@[simp] theorem ix_mark {n : Str} : gIdx (itemD (.mark n)) (.int 1) = some (.str n) := (rfl)
@[simp] theorem ix_ref {n : Str} : gIdx (itemD (.ref n)) (.int 1) = some (.str n) := (rfl)
@[simp] theorem q_text {i : Item} : gEq (.str (kind i)) (.str "text") = some (.bl i.isText) := by rw [gEq_eq (by rw [okS]; exact kindOk i) (by rw [okS]; exact s_text), eqD_str, (kind_eq i).1]
@[simp] theorem q_mark {i : Item} : gEq (.str (kind i)) (.str "mark") = some (.bl i.isMark) := by rw [gEq_eq (by rw [okS]; exact kindOk i) (by rw [okS]; exact s_mark), eqD_str, (kind_eq i).2.1]
@[simp] theorem q_ref {i : Item} : gEq (.str (kind i)) (.str "ref") = some (.bl i.isRef) := by rw [gEq_eq (by rw [okS]; exact kindOk i) (by rw [okS]; exact s_ref), eqD_str, (kind_eq i).2.2.1]
@[simp] theorem q_brk {i : Item} : gEq (.str (kind i)) (.str "break") = some (.bl i.isBrk) := by rw [gEq_eq (by rw [okS]; exact kindOk i) (by rw [okS]; exact s_break), eqD_str, (kind_eq i).2.2.2]
@[simp] theorem nq_mark {i : Item} : gNe (.str (kind i)) (.str "mark") = some (.bl !i.isMark) := by rw [gNe_eq (by rw [okS]; exact kindOk i) (by rw [okS]; exact s_mark), eqD_str, (kind_eq i).2.1]
@[simp] theorem nq_ref {i : Item} : gNe (.str (kind i)) (.str "ref") = some (.bl !i.isRef) := by rw [gNe_eq (by rw [okS]; exact kindOk i) (by rw [okS]; exact s_ref), eqD_str, (kind_eq i).2.2.1]
@[simp] theorem nq_brk {i : Item} : gNe (.str (kind i)) (.str "break") = some (.bl !i.isBrk) := by rw [gNe_eq (by rw [okS]; exact kindOk i) (by rw [okS]; exact s_break), eqD_str, (kind_eq i).2.2.2]
@[simp] theorem nq_text {i : Item} : gNe (.str (kind i)) (.str "text") = some (.bl !i.isText) := by rw [gNe_eq (by rw [okS]; exact kindOk i) (by rw [okS]; exact s_text), eqD_str, (kind_eq i).1]
@[simp] theorem as_bl {b : Bool} : asB (.bl b) = some b := (rfl)
@[simp] theorem eq_int {a b : Int} : gEq (.int a) (.int b) = some (.bl (decide (a = b))) := by rw [gEq_eq okI okI, eqD_int]
@[simp] theorem ne_int {a b : Int} : gNe (.int a) (.int b) = some (.bl !(decide (a = b))) := by rw [gNe_eq okI okI, eqD_int]
@[simp] theorem lt_int {a b : Int} : gLt (.int a) (.int b) = some (.bl (decide (a < b))) := (rfl)
@[simp] theorem le_int {a b : Int} : gLe (.int a) (.int b) = some (.bl (decide (a ≤ b))) := (rfl)
@[simp] theorem gt_int {a b : Int} : gGt (.int a) (.int b) = some (.bl (decide (b < a))) := (rfl)
@[simp] theorem ge_int {a b : Int} : gGe (.int a) (.int b) = some (.bl (decide (b ≤ a))) := (rfl)
@[simp] theorem add_int {a b : Int} : gAdd (.int a) (.int b) = some (.int (a + b)) := (rfl)
@[simp] theorem sub_int {a b : Int} : gSub (.int a) (.int b) = some (.int (a - b)) := (rfl)
theorem mul_int {a b : Int} (h : CMulB a b = true) : gMul (.int a) (.int b) = some (.int (a * b)) := by simp [gMul, h]
theorem cmB {a b : Int} (h : a.natAbs < 2 ^ 64 ∨ b.natAbs < 2 ^ 64) : CMulB a b = true := by
  refine cdec_iff.mpr ?_
  omega
theorem mod_int {a b : Int} (h : 0 < b) : gMod (.int a) (.int b) = some (.int (a % b)) := by simp [gMod, h]
theorem div_int {a b : Int} (h : 0 < b) (h2 : b < 1073741824) : gFdiv (.int a) (.int b) = some (.int (a / b)) := by
  have : cdec (0 < b ∧ b < 1073741824) = true := cdec_iff.mpr ⟨h, h2⟩
  simp [gFdiv, this]
@[simp] theorem len_tup {xs : List D} : gLen (.tup xs) = some (.int xs.length) := (rfl)
@[simp] theorem len_lst {xs : List D} : gLen (.lst xs) = some (.int xs.length) := (rfl)
@[simp] theorem len_scr {xs : List Int} : gLen (.scr xs) = some (.int xs.length) := (rfl)
@[simp] theorem len_doc {xs : Doc} : gLen (docD xs) = some (.int xs.length) := by simp [docD]
@[simp] theorem len_num {xs : List Int} : gLen (numD xs) = some (.int xs.length) := by simp [numD]
@[simp] theorem tuple_lst {xs : List D} : gTuple (.lst xs) = some (.tup xs) := (rfl)
@[simp] theorem isb_bl {b : Bool} : isT "bool" (.bl b) = some (.bl true) := by cases b <;> rfl
@[simp] theorem isl_lst {b : List D} : isT "list" (.lst b) = some (.bl true) := (rfl)
@[simp] theorem ist_tup {b : List D} : isT "tuple" (.tup b) = some (.bl true) := (rfl)
@[simp] theorem ist_num {b : List Int} : isT "tuple" (numD b) = some (.bl true) := (rfl)
theorem gStr_int {n : Int} (h : n.natAbs < 2 ^ 100) : gStr (.int n) = some (.str (toString n)) := by
  have : n.natAbs.log2 < 1920 := by
    by_cases h0 : n.natAbs = 0
    · rw [h0]; decide
    · exact (Nat.log2_lt h0).mpr (Nat.lt_trans h (by decide +kernel))
  simp [gStr, cdec_iff.mpr this]
@[simp] theorem dix {kvs : List (Key × D)} {y : D} : gDix (.dic kvs) y = (keyD y).bind fun k => lookK k kvs := (rfl)
@[simp] theorem key_str {s : Str} : keyD (.str s) = some (.inr s) := (rfl)
theorem small_le' {n : Nat} (h : n ≤ 16777216) : small n = true := decide_eq_true h

/-! ### digits of a number -/
theorem ofString_len (s : String) : (Str.ofString s).length = s.length := by
  unfold Str.length Str.ofString
  rw [PySem.cpsOfBytes_string]
  simp [String.length_toList]
theorem dig_eq {n : Int} (h : 0 ≤ n) : dig n = ((Nat.repr n.toNat).length : Nat) := by
  obtain ⟨k, rfl⟩ := Int.eq_ofNat_of_zero_le h
  show (((Str.ofString (Int.repr (k : Int))).length : Nat) : Int) = _
  rw [ofString_len]
  rfl
theorem dig_le {n : Int} {k : Nat} (h : 0 ≤ n) (hk : 0 < k) : dig n ≤ k ↔ n < 10 ^ k := by
  rw [dig_eq h, Int.ofNat_le, Nat.length_repr_le_iff hk]
  have : (n.toNat : Int) = n := Int.toNat_of_nonneg h
  constructor
  · intro h1
    have h2 : (n.toNat : Int) < ((10 ^ k : Nat) : Int) := Int.ofNat_lt.mpr h1
    rw [this] at h2
    simpa using h2
  · intro h1
    have h2 : (n.toNat : Int) < ((10 ^ k : Nat) : Int) := by rw [this]; simpa using h1
    exact Int.ofNat_lt.mp h2
theorem dig_pos {n : Int} (h : 0 ≤ n) : 1 ≤ dig n := by
  rw [dig_eq h]
  have : 0 < (Nat.repr n.toNat).length := by
    rcases Nat.eq_zero_or_pos (Nat.repr n.toNat).length with h0 | h0
    · exfalso
      have h1 := Nat.toList_repr (n := n.toNat)
      have h2 : (Nat.repr n.toNat).toList.length = 0 := by rw [String.length_toList]; exact h0
      rw [h1] at h2
      have := Nat.length_toDigits_pos (b := 10) (n := n.toNat)
      omega
    · exact h0
  omega
theorem dig_mono {a b : Int} (h0 : 0 ≤ a) (h : a ≤ b) : dig a ≤ dig b := by
  have hb : 0 ≤ b := Int.le_trans h0 h
  have h1 := dig_pos hb
  obtain ⟨k, hk⟩ := Int.eq_ofNat_of_zero_le (a := dig b) (by omega)
  have hk0 : 0 < k := by omega
  have := (dig_le hb hk0).mp (by omega)
  rw [hk]
  exact (dig_le h0 hk0).mpr (by omega)
theorem dig_12 {n : Int} (h : 0 ≤ n) (h2 : n ≤ 1000000000000) : dig n ≤ 13 := (dig_le (k := 13) h (by decide)).mpr (by omega)
end PL
/-! ### part POE -/
namespace PLaw
open PySem L2 PL
theorem isE_eq {a : Addr} {b : Bool} {ρ : Rho} (h : ρ[0]?.join = some (.adr a)) : fIsE 0 a b ρ = some (.bl b) := by
  unfold fIsE; rw [h]; simp
theorem err_eI : ∀ a, B__law_error a true false false false false false (some (.adr a) :: List.replicate 4 none) = some (.rt (.str "contents value")) := fun a => by
  simp only [B__law_error]
  simp [isE_eq, gAdd, small]
  rfl
theorem err_eS : ∀ a, B__law_error a false true false false false false (some (.adr a) :: List.replicate 4 none) = some (.rt (.str "pagesize value")) := fun a => by
  simp only [B__law_error]
  simp [isE_eq, gAdd, small]
  rfl
theorem err_eT : ∀ a, B__law_error a false false true false false false (some (.adr a) :: List.replicate 4 none) = some (.rt (.str "wording value")) := fun a => by
  simp only [B__law_error]
  simp [isE_eq, gAdd, small]
  rfl
theorem err_eP : ∀ a, B__law_error a false false false true false false (some (.adr a) :: List.replicate 4 none) = some (.rt (.str "spot value")) := fun a => by
  simp only [B__law_error]
  simp [isE_eq, gAdd, small]
  rfl
theorem err_eL : ∀ a, B__law_error a false false false false true false (some (.adr a) :: List.replicate 4 none) = some (.rt (.str "many value")) := fun a => by
  simp only [B__law_error]
  simp [isE_eq, gAdd, small]
  rfl
theorem err_eU : ∀ a, B__law_error a false false false false false true (some (.adr a) :: List.replicate 4 none) = some (.rt (.str "unknown value")) := fun a => by
  simp only [B__law_error]
  simp [isE_eq, gAdd, small]
  rfl
end PLaw
/-! ### part MoS -/
namespace PLaw
open PySem L2 PL
noncomputable section
/-- Document.__init__ of R: 0 self, 1 size, 2 items -/
noncomputable def B_Document___init___R (q : Ad) : Rho → Option Fo :=
  (oSeq (oIf (nb (tb (fz (fCall 1 M_is_document (fsCons (fVar 2) fsNil))))) (oSeq (oRaise q.eI)
  oNil) oNil)
  (oSeq (oIf (nb (tb (fz (fCall 3 M_is_integer (fsCons (fVar 1) (fsCons (fC (.int 1)) (fsCons (fC (.int 10000)) fsNil))))))) (oSeq (oRaise q.eS)
  oNil) oNil)
  (oSeq (oFld 0 0 (fVar 2))
  (oSeq (oFld 0 1 (fVar 1))
  oNil))))
noncomputable def F_Document___init___R (q : Ad) : List D → Option D → Option Mo := iF 3 q.R (.int 1000) (B_Document___init___R q)
/-- Document.names of R: 0 self -/
noncomputable def B_Document_names_R (q : Ad) : Rho → Option Ro :=
  (rRet (u1 gTuple (fz (fCall 1 M_mark_names (fsCons (fFld 0 (fVarW 0)) fsNil)))))
noncomputable def F_Document_names_R (q : Ad) : List D → List D → Option Ro := rF 1 q.R (B_Document_names_R q)
/-- Draft.__init__ of R: 0 self, 1 size, 2 items -/
noncomputable def B_Draft___init___R (q : Ad) : Rho → Option Fo :=
  (oSeq (oDo (zSupI q.R (F_Document___init___R q) (fVar 2) (fVar 1)))
  (oSeq (oFld 0 2 (fz (b2 gMul (fTup (fsCons (fC (.int 1)) fsNil)) (u1 gLen (fRead q.R 0 (F_Document_names_R q) (fVarW 0) fsNil)))))
  oNil))
noncomputable def F_Draft___init___R (q : Ad) : List D → Option D → Option Mo := iF 3 q.R (.int 1000) (B_Draft___init___R q)
/-- Document.__init__ of D: 0 self, 1 size, 2 items -/
noncomputable def B_Document___init___D (q : Ad) : Rho → Option Fo :=
  (oSeq (oIf (nb (tb (fz (fCall 1 M_is_document (fsCons (fVar 2) fsNil))))) (oSeq (oRaise q.eI)
  oNil) oNil)
  (oSeq (oIf (nb (tb (fz (fCall 3 M_is_integer (fsCons (fVar 1) (fsCons (fC (.int 1)) (fsCons (fC (.int 10000)) fsNil))))))) (oSeq (oRaise q.eS)
  oNil) oNil)
  (oSeq (oFld 0 0 (fVar 2))
  (oSeq (oFld 0 1 (fVar 1))
  oNil))))
noncomputable def F_Document___init___D (q : Ad) : List D → Option D → Option Mo := iF 3 q.D (.int 1000) (B_Document___init___D q)
/-- Document.change of R: 0 self, 1 items -/
noncomputable def B_Document_change_R (q : Ad) : Rho → Option Fo :=
  (oSeq (oFld 0 0 (fVar 1))
  oNil)
noncomputable def F_Document_change_R (q : Ad) : List D → List D → Option Mo := mF 2 q.R (B_Document_change_R q)
/-- Draft.change of R: 0 self, 1 items, 2 known, 3 name, 4 number -/
noncomputable def B_Draft_change_R (q : Ad) : Rho → Option Fo :=
  (oSeq (oUp (gSet 2 (fDcomp (fZip (fRead q.R 0 (F_Document_names_R q) (fVarW 0) fsNil) (fFld 2 (fVarW 0))) [3, 4] (tTup 2 (tCons (tName 3) (tCons (tName 4) tNil))) cYes (fVar 3) (fVar 4))))
  (oSeq (oDo (zSup q.R 1 (F_Document_change_R q) (fsCons (fVar 1) fsNil)))
  (oSeq (oFld 0 2 (u1 gTuple (fz (fComp (fSeq (fRead q.R 0 (F_Document_names_R q) (fVarW 0) fsNil)) [3] (tName 3) cYes (fDget (fVarW 2) (fVar 3) (fC (.int 1)))))))
  oNil)))
noncomputable def F_Draft_change_R (q : Ad) : List D → List D → Option Mo := mF 5 q.R (B_Draft_change_R q)
/-- Document.insert of R: 0 self, 1 place, 2 items, 3 changed -/
noncomputable def B_Document_insert_R (q : Ad) : Rho → Option Fo :=
  (oSeq (oIf (nb (tb (fz (fCall 3 M_is_integer (fsCons (fVar 1) (fsCons (fC (.int 0)) (fsCons (u1 gLen (fFld 0 (fVarW 0))) fsNil))))))) (oSeq (oRaise q.eP)
  oNil) oNil)
  (oSeq (oUp (gSet 3 (fz (b2 gAdd (fz (b2 gAdd (fz (fSl (fFld 0 (fVarW 0)) oNone (oSome (fVarW 1)))) (fVarW 2))) (fz (fSl (fFld 0 (fVarW 0)) (oSome (fVarW 1)) oNone))))))
  (oSeq (oIf (nb (tb (fz (fCall 1 M_is_document (fsCons (fVar 3) fsNil))))) (oSeq (oRaise q.eI)
  oNil) oNil)
  (oSeq (oDo (zMeth 0 q.R 1 (F_Draft_change_R q) (fsCons (fVar 3) fsNil)))
  oNil))))
noncomputable def F_Document_insert_R (q : Ad) : List D → D → List D → Option Mo := sF 4 q.R (B_Document_insert_R q)
/-- Document.change of D: 0 self, 1 items -/
noncomputable def B_Document_change_D (q : Ad) : Rho → Option Fo :=
  (oSeq (oFld 0 0 (fVar 1))
  oNil)
noncomputable def F_Document_change_D (q : Ad) : List D → List D → Option Mo := mF 2 q.D (B_Document_change_D q)
/-- Document.insert of D: 0 self, 1 place, 2 items, 3 changed -/
noncomputable def B_Document_insert_D (q : Ad) : Rho → Option Fo :=
  (oSeq (oIf (nb (tb (fz (fCall 3 M_is_integer (fsCons (fVar 1) (fsCons (fC (.int 0)) (fsCons (u1 gLen (fFld 0 (fVarW 0))) fsNil))))))) (oSeq (oRaise q.eP)
  oNil) oNil)
  (oSeq (oUp (gSet 3 (fz (b2 gAdd (fz (b2 gAdd (fz (fSl (fFld 0 (fVarW 0)) oNone (oSome (fVarW 1)))) (fVarW 2))) (fz (fSl (fFld 0 (fVarW 0)) (oSome (fVarW 1)) oNone))))))
  (oSeq (oIf (nb (tb (fz (fCall 1 M_is_document (fsCons (fVar 3) fsNil))))) (oSeq (oRaise q.eI)
  oNil) oNil)
  (oSeq (oDo (zMeth 0 q.D 1 (F_Document_change_D q) (fsCons (fVar 3) fsNil)))
  oNil))))
noncomputable def F_Document_insert_D (q : Ad) : List D → D → List D → Option Mo := sF 4 q.D (B_Document_insert_D q)
/-- Document.remove of R: 0 self, 1 place, 2 changed, 3 item -/
noncomputable def B_Document_remove_R (q : Ad) : Rho → Option Fo :=
  (oSeq (oIf (nb (tb (fz (fCall 3 M_is_integer (fsCons (fVar 1) (fsCons (fC (.int 0)) (fsCons (b2 gSub (u1 gLen (fFld 0 (fVarW 0))) (fC (.int 1))) fsNil))))))) (oSeq (oRaise q.eP)
  oNil) oNil)
  (oSeq (oUp (gSet 2 (fz (b2 gAdd (fz (fSl (fFld 0 (fVarW 0)) oNone (oSome (fVarW 1)))) (fz (fSl (fFld 0 (fVarW 0)) (oSome (fz (b2 gAdd (fVarW 1) (fC (.int 1))))) oNone))))))
  (oSeq (oIf (nb (tb (fz (fCall 1 M_is_document (fsCons (fVar 2) fsNil))))) (oSeq (oRaise q.eI)
  oNil) oNil)
  (oSeq (oUp (gSet 3 (b2 gIdx (fFld 0 (fVarW 0)) (fVarW 1))))
  (oSeq (oDo (zMeth 0 q.R 1 (F_Draft_change_R q) (fsCons (fVar 2) fsNil)))
  (oSeq (oRet (fVar 3))
  oNil))))))
noncomputable def F_Document_remove_R (q : Ad) : List D → List D → Option Mo := mF 4 q.R (B_Document_remove_R q)
/-- Document.remove of D: 0 self, 1 place, 2 changed, 3 item -/
noncomputable def B_Document_remove_D (q : Ad) : Rho → Option Fo :=
  (oSeq (oIf (nb (tb (fz (fCall 3 M_is_integer (fsCons (fVar 1) (fsCons (fC (.int 0)) (fsCons (b2 gSub (u1 gLen (fFld 0 (fVarW 0))) (fC (.int 1))) fsNil))))))) (oSeq (oRaise q.eP)
  oNil) oNil)
  (oSeq (oUp (gSet 2 (fz (b2 gAdd (fz (fSl (fFld 0 (fVarW 0)) oNone (oSome (fVarW 1)))) (fz (fSl (fFld 0 (fVarW 0)) (oSome (fz (b2 gAdd (fVarW 1) (fC (.int 1))))) oNone))))))
  (oSeq (oIf (nb (tb (fz (fCall 1 M_is_document (fsCons (fVar 2) fsNil))))) (oSeq (oRaise q.eI)
  oNil) oNil)
  (oSeq (oUp (gSet 3 (b2 gIdx (fFld 0 (fVarW 0)) (fVarW 1))))
  (oSeq (oDo (zMeth 0 q.D 1 (F_Document_change_D q) (fsCons (fVar 2) fsNil)))
  (oSeq (oRet (fVar 3))
  oNil))))))
noncomputable def F_Document_remove_D (q : Ad) : List D → List D → Option Mo := mF 4 q.D (B_Document_remove_D q)
/-- Document.__len__ of R: 0 self -/
noncomputable def B_Document___len___R (q : Ad) : Rho → Option Ro :=
  (rRet (u1 gLen (fFld 0 (fVarW 0))))
noncomputable def F_Document___len___R (q : Ad) : List D → List D → Option Ro := rF 1 q.R (B_Document___len___R q)
/-- Document.__len__ of D: 0 self -/
noncomputable def B_Document___len___D (q : Ad) : Rho → Option Ro :=
  (rRet (u1 gLen (fFld 0 (fVarW 0))))
noncomputable def F_Document___len___D (q : Ad) : List D → List D → Option Ro := rF 1 q.D (B_Document___len___D q)
/-- Document.content of R: 0 self -/
noncomputable def B_Document_content_R (q : Ad) : Rho → Option Ro :=
  (rRet (fFld 0 (fVarW 0)))
noncomputable def F_Document_content_R (q : Ad) : List D → List D → Option Ro := rF 1 q.R (B_Document_content_R q)
/-- Document.content of D: 0 self -/
noncomputable def B_Document_content_D (q : Ad) : Rho → Option Ro :=
  (rRet (fFld 0 (fVarW 0)))
noncomputable def F_Document_content_D (q : Ad) : List D → List D → Option Ro := rF 1 q.D (B_Document_content_D q)
end
end PLaw
/-! ### part Mo_k15 -/
namespace PLaw
open PySem L2 PL
noncomputable section
/-- _law_valid: 0 row, 1 names, 2 item -/
def B__law_valid : Rho → Option Fl :=
  (gSeq (gSet 1 (fz (fComp (fSeq (fVar 0)) [2] (tName 2) (tb (b2 gEq (b2 gIdx (fVarW 2) (fC (.int 0))) (fC (.str "mark")))) (b2 gIdx (fVarW 2) (fC (.int 1))))))
  (gSeq (gIf (fOr (nb (tb (b3 gLe gLe (fC (.int 1)) (u1 gLen (fVarW 0)) (fC (.int 30))))) (fOr (tb (b2 gGt (u1 gLen (fVarW 1)) (fC (.int 8)))) (tb (b2 gLt (u1 gLen (fz (u1 gSortSet (fVarW 1)))) (u1 gLen (fVarW 1)))))) (gSeq (gRet (fC (.bl false)))
  gNil) gNil)
  (gSeq (gRet (b2 gEq (fz (fComp (fSeq (fVar 0)) [2] (tName 2) (fAnd (tb (b2 gEq (b2 gIdx (fVarW 2) (fC (.int 0))) (fC (.str "ref")))) (tb (b2 gNotIn (b2 gIdx (fVarW 2) (fC (.int 1))) (fVarW 1)))) (fVar 2))) (fz (fLst fsNil))))
  gNil)))
def M__law_valid : List D → Option D := runF 3 B__law_valid
/-- _law_put, R: 0 made, 1 place, 2 row -/
noncomputable def B__law_put_R (q : Ad) : Rho → Option Fo :=
  (oSeq (oIf (tb (b2 gEq (u1 gLen (fVarW 2)) (fC (.int 1)))) (oSeq (oRetZ (zMethS 0 q.R (F_Document_insert_R q) (fsCons (fVar 1) (fsCons (b2 gIdx (fVarW 2) (fC (.int 0))) fsNil))))
  oNil) oNil)
  (oSeq (oIf (tb (b2 gEq (u1 gLen (fVarW 2)) (fC (.int 2)))) (oSeq (oRetZ (zMethS 0 q.R (F_Document_insert_R q) (fsCons (fVar 1) (fsCons (b2 gIdx (fVarW 2) (fC (.int 0))) (fsCons (b2 gIdx (fVarW 2) (fC (.int 1))) fsNil)))))
  oNil) oNil)
  (oSeq (oRetZ (zMethS 0 q.R (F_Document_insert_R q) (fsCons (fVar 1) (fsCons (b2 gIdx (fVarW 2) (fC (.int 0))) (fsCons (b2 gIdx (fVarW 2) (fC (.int 1))) (fsCons (b2 gIdx (fVarW 2) (fC (.int 2))) fsNil))))))
  oNil)))
noncomputable def F__law_put_R (q : Ad) : List D → List D → Option Mo := mF 3 q.R (B__law_put_R q)
/-- _law_put, D: 0 made, 1 place, 2 row -/
noncomputable def B__law_put_D (q : Ad) : Rho → Option Fo :=
  (oSeq (oIf (tb (b2 gEq (u1 gLen (fVarW 2)) (fC (.int 1)))) (oSeq (oRetZ (zMethS 0 q.D (F_Document_insert_D q) (fsCons (fVar 1) (fsCons (b2 gIdx (fVarW 2) (fC (.int 0))) fsNil))))
  oNil) oNil)
  (oSeq (oIf (tb (b2 gEq (u1 gLen (fVarW 2)) (fC (.int 2)))) (oSeq (oRetZ (zMethS 0 q.D (F_Document_insert_D q) (fsCons (fVar 1) (fsCons (b2 gIdx (fVarW 2) (fC (.int 0))) (fsCons (b2 gIdx (fVarW 2) (fC (.int 1))) fsNil)))))
  oNil) oNil)
  (oSeq (oRetZ (zMethS 0 q.D (F_Document_insert_D q) (fsCons (fVar 1) (fsCons (b2 gIdx (fVarW 2) (fC (.int 0))) (fsCons (b2 gIdx (fVarW 2) (fC (.int 1))) (fsCons (b2 gIdx (fVarW 2) (fC (.int 2))) fsNil))))))
  oNil)))
noncomputable def F__law_put_D (q : Ad) : List D → List D → Option Mo := mF 3 q.D (B__law_put_D q)
def L_law_0 (q : Ad) : Rho → Option Fo :=
  (oSeq (oUp (gPar2 6 7 (b2 gIdx (fVarW 2) (fz (b2 gAdd (fC (.int 10)) (fVarW 5)))) (fz (fLst (fsCons (fC (.str "a")) (fsCons (fC (.str "b")) (fsCons (fC (.str "cc")) fsNil)))))))
  (oSeq (oUp (gSet 8 (fz (fLst (fsCons (fTup (fsCons (fC (.str "text")) (fsCons (b2 gMod (fVarW 6) (fC (.int 9))) fsNil))) (fsCons (fTup (fsCons (fC (.str "mark")) (fsCons (b2 gIdx (fVarW 7) (b2 gMod (fVarW 6) (fC (.int 3)))) fsNil))) (fsCons (fTup (fsCons (fC (.str "ref")) (fsCons (b2 gIdx (fVarW 7) (b2 gMod (b2 gFdiv (fVarW 6) (fC (.int 3))) (fC (.int 3)))) fsNil))) (fsCons (fTup (fsCons (fC (.str "break")) fsNil)) fsNil))))))))
  (oSeq (oUp (gSet 9 (u1 gTuple (fz (fComp (fRng rng1 (fsCons (fz (b2 gAdd (fC (.int 1)) (b2 gMod (fVarW 6) (fC (.int 3))))) fsNil)) [10] (tName 10) cYes (b2 gIdx (fVarW 8) (b2 gMod (b2 gFdiv (b2 gIdx (fVarW 2) (fz (b2 gAdd (fC (.int 40)) (fVarW 5)))) (b2 gIdx (fz (fLst (fsCons (fC (.int 1)) (fsCons (fC (.int 4)) (fsCons (fC (.int 16)) fsNil))))) (fVarW 10))) (fC (.int 4)))))))))
  (oSeq (oUp (gSet 11 (b2 gMod (b2 gIdx (fVarW 2) (fz (b2 gAdd (fC (.int 65)) (fVarW 5)))) (fz (b2 gAdd (u1 gLen (fVarW 4)) (fC (.int 1)))))))
  (oSeq (oUp (gIf (tb (b2 gEq (b2 gMod (b2 gIdx (fVarW 2) (fz (b2 gAdd (fC (.int 90)) (fVarW 5)))) (fC (.int 9))) (fC (.int 0)))) (gSeq (gSet 11 (b2 gIdx (fz (fLst (fsCons (b2 gSub (fC (.int 0)) (fC (.int 1))) (fsCons (fz (b2 gAdd (u1 gLen (fVarW 4)) (fC (.int 1)))) (fsCons (fC .non) (fsCons (fC (.bl true)) (fsCons (fC (.str "0")) fsNil))))))) (b2 gMod (fVarW 6) (fC (.int 5)))))
  gNil) gNil))
  (oSeq (oUp (gSet 12 (fz (fCall 3 M__law_is_integer (fsCons (fVar 11) (fsCons (fC (.int 0)) (fsCons (u1 gLen (fVarW 4)) fsNil)))))))
  (oSeq (oIf (tb (b2 gLt (b2 gMod (b2 gFdiv (b2 gIdx (fVarW 2) (fz (b2 gAdd (fC (.int 90)) (fVarW 5)))) (fC (.int 9))) (fC (.int 3))) (fC (.int 2)))) (oSeq (oUp (gSet 13 (fIf (tb (fVar 12)) (fz (b2 gAdd (fz (b2 gAdd (fz (fSl (fVarW 4) oNone (oSome (fVarW 11)))) (fVarW 9))) (fz (fSl (fVarW 4) (oSome (fVarW 11)) oNone)))) (fVar 4))))
  (oSeq (oUp (gSet 14 (fIf (nb (tb (fVar 12))) (fC (.str "spot value")) (fIf (tb (fz (fCall 1 M__law_valid (fsCons (fVar 13) fsNil)))) (fC (.str "")) (fC (.str "contents value"))))))
  (oSeq (oIfZ (zbOp gNe (zTold q.txt (zElse (zMeth 3 q.R 2 (F__law_put_R q) (fsCons (fVar 11) (fsCons (fVar 9) fsNil))) (zMeth 3 q.D 2 (F__law_put_D q) (fsCons (fVar 11) (fsCons (fVar 9) fsNil))))) (fTup (fsCons (fC .non) (fsCons (fVar 14) fsNil)))) (oSeq (oUp (gRet (fC (.bl false))))
  oNil) oNil)
  oNil))) (oSeq (oUp (gSet 12 (vAnd (fVar 12) (b2 gLt (fVarW 11) (u1 gLen (fVarW 4))))))
  (oSeq (oUp (gSet 13 (fIf (tb (fVar 12)) (fz (b2 gAdd (fz (fSl (fVarW 4) oNone (oSome (fVarW 11)))) (fz (fSl (fVarW 4) (oSome (fz (b2 gAdd (fVarW 11) (fC (.int 1))))) oNone)))) (fVar 4))))
  (oSeq (oUp (gSet 14 (fIf (nb (tb (fVar 12))) (fC (.str "spot value")) (fIf (tb (fz (fCall 1 M__law_valid (fsCons (fVar 13) fsNil)))) (fC (.str "")) (fC (.str "contents value"))))))
  (oSeq (oIfZ (zbOp gNe (zTold q.txt (zElse (zMeth 3 q.R 1 (F_Document_remove_R q) (fsCons (fVar 11) fsNil)) (zMeth 3 q.D 1 (F_Document_remove_D q) (fsCons (fVar 11) fsNil)))) (fTup (fsCons (fIf (tb (b2 gEq (fVarW 14) (fC (.str "")))) (b2 gIdx (fVarW 4) (fVarW 11)) (fC .non)) (fsCons (fVar 14) fsNil)))) (oSeq (oUp (gRet (fC (.bl false))))
  oNil) oNil)
  oNil)))))
  (oSeq (oUp (gSet 4 (fIf (tb (b2 gEq (fVarW 14) (fC (.str "")))) (fVar 13) (fVar 4))))
  (oSeq (oUp (gIf (fOr (tb (b2 gNe (zElse (fRead q.R 0 (F_Document_content_R q) (fVarW 3) fsNil) (fRead q.D 0 (F_Document_content_D q) (fVarW 3) fsNil)) (fVarW 4))) (tb (b2 gNe (zElse (fLenO q.R (F_Document___len___R q) (fVarW 3)) (fLenO q.D (F_Document___len___D q) (fVarW 3))) (u1 gLen (fVarW 4))))) (gSeq (gRet (fC (.bl false)))
  gNil) gNil))
  oNil)))))))))
def L_law_1 (q : Ad) : Rho → Option Fo :=
  (oSeq (oUp (gSet 2 (fz (fCall 4 M__law_digits (fsCons (fVar 0) (fsCons (fVar 1) (fsCons (fC (.int 120)) (fsCons (fC (.int 27720)) fsNil))))))))
  (oSeq (oSetM 3 (mIf (tb (b2 gEq (b2 gMod (fVarW 1) (fC (.int 2))) (fC (.int 0)))) (mMakeK q.R (F_Draft___init___R q) (fsCons (fTup (fsCons (fC (.str "break")) fsNil)) fsNil) (fC (.int 5))) (mMakeK q.D (F_Document___init___D q) (fsCons (fTup (fsCons (fC (.str "break")) fsNil)) fsNil) (fC (.int 5)))))
  (oSeq (oUp (gSet 4 (fTup (fsCons (fTup (fsCons (fC (.str "break")) fsNil)) fsNil))))
  (oSeq (oFor (fRng rng1 (fsCons (fC (.int 24)) fsNil)) (tName 5) (L_law_0 q))
  (oSeq (oUp (gSet 15 (b2 gIdx (fz (fLst (fsCons (fC .non) (fsCons (fC (.int 5)) (fsCons (fC (.str "break")) (fsCons (fTup (fsCons (fC (.str "text")) (fsCons (b2 gSub (fC (.int 0)) (fC (.int 1))) fsNil))) (fsCons (fTup (fsCons (fC (.str "mark")) (fsCons (fC (.str "A")) fsNil))) (fsCons (fz (fLst (fsCons (fC (.str "break")) fsNil))) (fsCons (fTup fsNil) fsNil))))))))) (b2 gMod (b2 gIdx (fVarW 2) (fC (.int 5))) (fC (.int 7))))))
  (oSeq (oIfZ (zOr (zbOp gNe (zTold q.txt (zElse (zMethS 3 q.R (F_Document_insert_R q) (fsCons (fC (.int 0)) (fsCons (fTup (fsCons (fC (.str "break")) fsNil)) (fsCons (fVar 15) fsNil)))) (zMethS 3 q.D (F_Document_insert_D q) (fsCons (fC (.int 0)) (fsCons (fTup (fsCons (fC (.str "break")) fsNil)) (fsCons (fVar 15) fsNil)))))) (fTup (fsCons (fC .non) (fsCons (fC (.str "contents value")) fsNil)))) (zbUp (tb (b2 gNe (zElse (fRead q.R 0 (F_Document_content_R q) (fVarW 3) fsNil) (fRead q.D 0 (F_Document_content_D q) (fVarW 3) fsNil)) (fVarW 4))))) (oSeq (oUp (gRet (fC (.bl false))))
  oNil) oNil)
  (oSeq (oIfZ (zOr (zbOp gIsNot (zElse (zMethS 3 q.R (F_Document_insert_R q) (fsCons (fC (.int 0)) fsNil)) (zMethS 3 q.D (F_Document_insert_D q) (fsCons (fC (.int 0)) fsNil))) (fC .non)) (zbUp (tb (b2 gNe (zElse (fRead q.R 0 (F_Document_content_R q) (fVarW 3) fsNil) (fRead q.D 0 (F_Document_content_D q) (fVarW 3) fsNil)) (fVarW 4))))) (oSeq (oUp (gRet (fC (.bl false))))
  oNil) oNil)
  oNil)))))))
/-- law: 0 script, 1 index, 2 digits, 3 made, 4 due, 5 k, 6 digit, 7 names, 8 some, 9 row, 10 j, 11 place, 12 good, 13 later, 14 told, 15 odd -/
def B_law (q : Ad) : Rho → Option Fo :=
  (oSeq (oFor (fRng rng1 (fsCons (fC (.int 8)) fsNil)) (tName 1) (L_law_1 q))
  (oSeq (oUp (gRet (fC (.bl true))))
  oNil))
end
end PLaw
/-! ### part Wo_k15 -/
namespace PLaw
open PySem PySem.Spec PyProof.Rows L2 PL SupX LamX HotX L2H HotZ
def topS (i : Nat) : Stmt := PySem.Challenge.pw_rerunpages_k15_items_inserted_and_remove.main.body.getD i (.Pass ⟨0, 0, 0, 0⟩)
def methS (i j : Nat) : Stmt := methOf (topS i) j
abbrev s_is_integer : Stmt := topS 11
theorem sc_is_integer : FnScope ["value", "low", "high"] ["value", "low", "high"] (defScope s_is_integer) := ⟨rfl, rfl, rfl, by decide +kernel, rfl, by decide +kernel, by decide +kernel⟩
abbrev s_is_name : Stmt := topS 12
theorem sc_is_name : FnScope ["value", "sign"] ["value"] (defScope s_is_name) := ⟨rfl, rfl, rfl, by decide +kernel, rfl, by decide +kernel, by decide +kernel⟩
abbrev s_mark_names : Stmt := topS 14
theorem sc_mark_names : FnScope ["items", "item"] ["items"] (defScope s_mark_names) := ⟨rfl, rfl, rfl, by decide +kernel, rfl, by decide +kernel, by decide +kernel⟩
abbrev s__law_cell : Stmt := topS 30
theorem sc__law_cell : FnScope ["script", "index"] ["script", "index"] (defScope s__law_cell) := ⟨rfl, rfl, rfl, by decide +kernel, rfl, by decide +kernel, by decide +kernel⟩
abbrev s__law_is_integer : Stmt := topS 32
theorem sc__law_is_integer : FnScope ["value", "low", "high"] ["value", "low", "high"] (defScope s__law_is_integer) := ⟨rfl, rfl, rfl, by decide +kernel, rfl, by decide +kernel, by decide +kernel⟩
abbrev s__law_valid : Stmt := topS 35
theorem sc__law_valid : FnScope ["row", "names", "item"] ["row"] (defScope s__law_valid) := ⟨rfl, rfl, rfl, by decide +kernel, rfl, by decide +kernel, by decide +kernel⟩
abbrev s_is_item : Stmt := topS 13
theorem sc_is_item : FnScope ["value"] ["value"] (defScope s_is_item) := ⟨rfl, rfl, rfl, by decide +kernel, rfl, by decide +kernel, by decide +kernel⟩
abbrev s__law_digits : Stmt := topS 31
theorem sc__law_digits : FnScope ["script", "index", "count", "base", "primes", "cell", "rest", "digits", "k", "mixed"] ["script", "index", "count", "base"] (defScope s__law_digits) := ⟨rfl, rfl, rfl, by decide +kernel, rfl, by decide +kernel, by decide +kernel⟩
abbrev s_is_document : Stmt := topS 15
theorem sc_is_document : FnScope ["value", "item", "names"] ["value"] (defScope s_is_document) := ⟨rfl, rfl, rfl, by decide +kernel, rfl, by decide +kernel, by decide +kernel⟩
abbrev s_Document___init__ : Stmt := methS 27 1
theorem sc_Document___init__ : FnScope ["self", "size", "items"] ["self", "size", "items"] (defScope s_Document___init__) := ⟨rfl, rfl, rfl, by decide +kernel, rfl, by decide +kernel, by decide +kernel⟩
abbrev s_Document_names : Stmt := methS 27 7
theorem sc_Document_names : FnScope ["self"] ["self"] (defScope s_Document_names) := ⟨rfl, rfl, rfl, by decide +kernel, rfl, by decide +kernel, by decide +kernel⟩
abbrev s_Draft___init__ : Stmt := methS 28 0
theorem sc_Draft___init__ : SupS ["self", "size", "items"] ["self", "size", "items"] (defScope s_Draft___init__) := supS_by (by decide +kernel)
abbrev s_Document_change : Stmt := methS 27 15
theorem sc_Document_change : FnScope ["self", "items"] ["self", "items"] (defScope s_Document_change) := ⟨rfl, rfl, rfl, by decide +kernel, rfl, by decide +kernel, by decide +kernel⟩
abbrev s_Draft_change : Stmt := methS 28 4
theorem sc_Draft_change : SupS ["self", "items", "known", "name", "number"] ["self", "items"] (defScope s_Draft_change) := supS_by (by decide +kernel)
abbrev s_Document_insert : Stmt := methS 27 13
theorem sc_Document_insert : FnScope ["self", "place", "items", "changed"] ["self", "place", "items"] (defScope s_Document_insert) := ⟨rfl, rfl, rfl, by decide +kernel, rfl, by decide +kernel, by decide +kernel⟩
abbrev s__law_put : Stmt := topS 36
theorem sc__law_put : FnScope ["made", "place", "row"] ["made", "place", "row"] (defScope s__law_put) := ⟨rfl, rfl, rfl, by decide +kernel, rfl, by decide +kernel, by decide +kernel⟩
abbrev s_Document_remove : Stmt := methS 27 14
theorem sc_Document_remove : FnScope ["self", "place", "changed", "item"] ["self", "place"] (defScope s_Document_remove) := ⟨rfl, rfl, rfl, by decide +kernel, rfl, by decide +kernel, by decide +kernel⟩
abbrev s_Document___len__ : Stmt := methS 27 18
theorem sc_Document___len__ : FnScope ["self"] ["self"] (defScope s_Document___len__) := ⟨rfl, rfl, rfl, by decide +kernel, rfl, by decide +kernel, by decide +kernel⟩
abbrev s_Document_content : Stmt := methS 27 4
theorem sc_Document_content : FnScope ["self"] ["self"] (defScope s_Document_content) := ⟨rfl, rfl, rfl, by decide +kernel, rfl, by decide +kernel, by decide +kernel⟩
abbrev s__law_error : Stmt := topS 33
theorem sc__law_error : FnScope ["e", "classes", "words", "word", "good"] ["e"] (defScope s__law_error) := ⟨rfl, rfl, rfl, by decide +kernel, rfl, by decide +kernel, by decide +kernel⟩
abbrev s__law_told : Stmt := topS 34
theorem sc__law_told : FnScope ["call", "e"] ["call"] (defScope s__law_told) := ⟨rfl, rfl, rfl, by decide +kernel, rfl, by decide +kernel, by decide +kernel⟩
abbrev s_law : Stmt := topS 37
theorem sc_law : FnScope ["script", "index", "digits", "made", "due", "k", "digit", "names", "some", "row", "j", "place", "good", "later", "told", "odd"] ["script"] (defScope s_law) := ⟨rfl, rfl, rfl, by decide +kernel, rfl, by decide +kernel, by decide +kernel⟩
structure Tb (K : PySem.W.Frag) (mg : Str → Option Value) where
  a_is_integer : Addr
  d_is_integer : FuncData
  F_is_integer : Fun K "is_integer" "is_integer" s_is_integer a_is_integer d_is_integer
  g_is_integer : mg "is_integer" = some (.ref a_is_integer)
  b_is_integer : L2.Binds K d_is_integer ["value", "low", "high"] []
  a_is_name : Addr
  d_is_name : FuncData
  F_is_name : Fun K "is_name" "is_name" s_is_name a_is_name d_is_name
  g_is_name : mg "is_name" = some (.ref a_is_name)
  b_is_name : L2.Binds K d_is_name ["value"] []
  a_mark_names : Addr
  d_mark_names : FuncData
  F_mark_names : Fun K "mark_names" "mark_names" s_mark_names a_mark_names d_mark_names
  g_mark_names : mg "mark_names" = some (.ref a_mark_names)
  b_mark_names : L2.Binds K d_mark_names ["items"] []
  a__law_cell : Addr
  d__law_cell : FuncData
  F__law_cell : Fun K "_law_cell" "_law_cell" s__law_cell a__law_cell d__law_cell
  g__law_cell : mg "_law_cell" = some (.ref a__law_cell)
  b__law_cell : L2.Binds K d__law_cell ["script", "index"] []
  a__law_is_integer : Addr
  d__law_is_integer : FuncData
  F__law_is_integer : Fun K "_law_is_integer" "_law_is_integer" s__law_is_integer a__law_is_integer d__law_is_integer
  g__law_is_integer : mg "_law_is_integer" = some (.ref a__law_is_integer)
  b__law_is_integer : L2.Binds K d__law_is_integer ["value", "low", "high"] []
  a__law_valid : Addr
  d__law_valid : FuncData
  F__law_valid : Fun K "_law_valid" "_law_valid" s__law_valid a__law_valid d__law_valid
  g__law_valid : mg "_law_valid" = some (.ref a__law_valid)
  b__law_valid : L2.Binds K d__law_valid ["row"] []
  a_is_item : Addr
  d_is_item : FuncData
  F_is_item : Fun K "is_item" "is_item" s_is_item a_is_item d_is_item
  g_is_item : mg "is_item" = some (.ref a_is_item)
  b_is_item : L2.Binds K d_is_item ["value"] []
  a__law_digits : Addr
  d__law_digits : FuncData
  F__law_digits : Fun K "_law_digits" "_law_digits" s__law_digits a__law_digits d__law_digits
  g__law_digits : mg "_law_digits" = some (.ref a__law_digits)
  b__law_digits : L2.Binds K d__law_digits ["script", "index", "count", "base"] []
  a_is_document : Addr
  d_is_document : FuncData
  F_is_document : Fun K "is_document" "is_document" s_is_document a_is_document d_is_document
  g_is_document : mg "is_document" = some (.ref a_is_document)
  b_is_document : L2.Binds K d_is_document ["value"] []
  n_ValueError : mg "ValueError" = none
  n_all : mg "all" = none
  n_bool : mg "bool" = none
  n_int : mg "int" = none
  n_isinstance : mg "isinstance" = none
  n_len : mg "len" = none
  n_range : mg "range" = none
  n_set : mg "set" = none
  n_sorted : mg "sorted" = none
  n_str : mg "str" = none
  n_tuple : mg "tuple" = none
  n_zip : mg "zip" = none
  t_LETTERS : Tok
  c_LETTERS : mg "LETTERS" = some (.str "abcdefghijklmnopqrstuvwxyz" t_LETTERS)
structure To (Pr : Program) (K : PySem.W.Frag) (mg : Str → Option Value) (q : Ad) where
  tb : Tb K mg
  oD : OkCls K q.D
  oR : OkCls K q.R
  gD : mg "Document" = some (.ref q.D)
  gR : mg "Draft" = some (.ref q.R)
  mroR : PySem.W.mroIn K q.R (.ref q.R) = some true
  SR : SupG Pr K mg q.R
  eI : ErrF K mg "InvalidItems" q.eI
  eS : ErrF K mg "InvalidSize" q.eS
  eT : ErrF K mg "InvalidText" q.eT
  eP : ErrF K mg "InvalidPlace" q.eP
  eL : ErrF K mg "InvalidLimit" q.eL
  eU : ErrF K mg "UnknownMark" q.eU
  f_Document___init__ : Addr
  i_Document___init__ : InitF K "__init__" "Document.__init__" s_Document___init__ f_Document___init__
  s_Document___init___R : SupM K q.R q.R "__init__" f_Document___init__
  f_Document_names : Addr
  d_Document_names : FuncData
  i_Document_names : Fun K "names" "Document.names" s_Document_names f_Document_names d_Document_names
  b_Document_names_R : L2.Binds K d_Document_names ["self"] []
  pa_Document_names_R : Addr
  p_Document_names_R : PropOf K q.R "names" pa_Document_names_R f_Document_names
  f_Draft___init__ : Addr
  i_Draft___init__ : SupF Pr K "__init__" "Draft.__init__" s_Draft___init__ f_Draft___init__ q.R (SizeD K)
  kR : Mk K q.R f_Draft___init__
  kD : Mk K q.D f_Document___init__
  f_Document_change : Addr
  d_Document_change : FuncData
  i_Document_change : Fun K "change" "Document.change" s_Document_change f_Document_change d_Document_change
  b_Document_change_R : L2.Binds K d_Document_change ["self", "items"] []
  s_Document_change_R : SupM K q.R q.R "change" f_Document_change
  f_Draft_change : Addr
  i_Draft_change : SupF Pr K "change" "Draft.change" s_Draft_change f_Draft_change q.R (fun _ => True)
  m_Draft_change_R : Meth K q.R "change" f_Draft_change
  f_Document_insert : Addr
  d_Document_insert : FuncData
  i_Document_insert : Fun K "insert" "Document.insert" s_Document_insert f_Document_insert d_Document_insert
  m_Document_insert_R : Meth K q.R "insert" f_Document_insert
  f__law_put : Addr
  d__law_put : FuncData
  i__law_put : Fun K "_law_put" "_law_put" s__law_put f__law_put d__law_put
  g__law_put : mg "_law_put" = some (.ref f__law_put)
  k__law_put : PySem.W.keepIn K (.ref f__law_put) = true
  b__law_put : L2.Binds K d__law_put ["made", "place", "row"] []
  b_Document_change_D : L2.Binds K d_Document_change ["self", "items"] []
  m_Document_change_D : Meth K q.D "change" f_Document_change
  m_Document_insert_D : Meth K q.D "insert" f_Document_insert
  f_Document_remove : Addr
  d_Document_remove : FuncData
  i_Document_remove : Fun K "remove" "Document.remove" s_Document_remove f_Document_remove d_Document_remove
  b_Document_remove_R : L2.Binds K d_Document_remove ["self", "place"] []
  m_Document_remove_R : Meth K q.R "remove" f_Document_remove
  b_Document_remove_D : L2.Binds K d_Document_remove ["self", "place"] []
  m_Document_remove_D : Meth K q.D "remove" f_Document_remove
  f_Document___len__ : Addr
  d_Document___len__ : FuncData
  i_Document___len__ : Fun K "__len__" "Document.__len__" s_Document___len__ f_Document___len__ d_Document___len__
  b_Document___len___R : L2.Binds K d_Document___len__ ["self"] []
  m_Document___len___R : Meth K q.R "__len__" f_Document___len__
  b_Document___len___D : L2.Binds K d_Document___len__ ["self"] []
  m_Document___len___D : Meth K q.D "__len__" f_Document___len__
  f_Document_content : Addr
  d_Document_content : FuncData
  i_Document_content : Fun K "content" "Document.content" s_Document_content f_Document_content d_Document_content
  b_Document_content_R : L2.Binds K d_Document_content ["self"] []
  pa_Document_content_R : Addr
  p_Document_content_R : PropOf K q.R "content" pa_Document_content_R f_Document_content
  b_Document_content_D : L2.Binds K d_Document_content ["self"] []
  pa_Document_content_D : Addr
  p_Document_content_D : PropOf K q.D "content" pa_Document_content_D f_Document_content
  f__law_error : Addr
  d__law_error : FuncData
  i__law_error : Fun K "_law_error" "_law_error" s__law_error f__law_error d__law_error
  g__law_error : mg "_law_error" = some (.ref f__law_error)
  k__law_error : PySem.W.keepIn K (.ref f__law_error) = true
  b__law_error : L2.Binds K d__law_error ["e"] []
  f__law_told : Addr
  d__law_told : FuncData
  i__law_told : Fun K "_law_told" "_law_told" s__law_told f__law_told d__law_told
  g__law_told : mg "_law_told" = some (.ref f__law_told)
  k__law_told : PySem.W.keepIn K (.ref f__law_told) = true
  b__law_told : L2.Binds K d__law_told ["call"] []
  PE : Addr
  gPE : mg "PageError" = some (.ref PE)
  x_eI : ExcC K q.eI
  m_eI : PySem.W.exmOne K (.ref q.eI) (.ref PE) = some true
  v_eI : PySem.W.kitOne K (.ref q.eI) (.type "ValueError") = some true
  u_eI_eI : PySem.W.kitOne K (.ref q.eI) (.ref q.eI) = some true
  u_eI_eS : PySem.W.kitOne K (.ref q.eI) (.ref q.eS) = some false
  u_eI_eT : PySem.W.kitOne K (.ref q.eI) (.ref q.eT) = some false
  u_eI_eP : PySem.W.kitOne K (.ref q.eI) (.ref q.eP) = some false
  u_eI_eL : PySem.W.kitOne K (.ref q.eI) (.ref q.eL) = some false
  u_eI_eU : PySem.W.kitOne K (.ref q.eI) (.ref q.eU) = some false
  x_eS : ExcC K q.eS
  m_eS : PySem.W.exmOne K (.ref q.eS) (.ref PE) = some true
  v_eS : PySem.W.kitOne K (.ref q.eS) (.type "ValueError") = some true
  u_eS_eI : PySem.W.kitOne K (.ref q.eS) (.ref q.eI) = some false
  u_eS_eS : PySem.W.kitOne K (.ref q.eS) (.ref q.eS) = some true
  u_eS_eT : PySem.W.kitOne K (.ref q.eS) (.ref q.eT) = some false
  u_eS_eP : PySem.W.kitOne K (.ref q.eS) (.ref q.eP) = some false
  u_eS_eL : PySem.W.kitOne K (.ref q.eS) (.ref q.eL) = some false
  u_eS_eU : PySem.W.kitOne K (.ref q.eS) (.ref q.eU) = some false
  x_eT : ExcC K q.eT
  m_eT : PySem.W.exmOne K (.ref q.eT) (.ref PE) = some true
  v_eT : PySem.W.kitOne K (.ref q.eT) (.type "ValueError") = some true
  u_eT_eI : PySem.W.kitOne K (.ref q.eT) (.ref q.eI) = some false
  u_eT_eS : PySem.W.kitOne K (.ref q.eT) (.ref q.eS) = some false
  u_eT_eT : PySem.W.kitOne K (.ref q.eT) (.ref q.eT) = some true
  u_eT_eP : PySem.W.kitOne K (.ref q.eT) (.ref q.eP) = some false
  u_eT_eL : PySem.W.kitOne K (.ref q.eT) (.ref q.eL) = some false
  u_eT_eU : PySem.W.kitOne K (.ref q.eT) (.ref q.eU) = some false
  x_eP : ExcC K q.eP
  m_eP : PySem.W.exmOne K (.ref q.eP) (.ref PE) = some true
  v_eP : PySem.W.kitOne K (.ref q.eP) (.type "ValueError") = some true
  u_eP_eI : PySem.W.kitOne K (.ref q.eP) (.ref q.eI) = some false
  u_eP_eS : PySem.W.kitOne K (.ref q.eP) (.ref q.eS) = some false
  u_eP_eT : PySem.W.kitOne K (.ref q.eP) (.ref q.eT) = some false
  u_eP_eP : PySem.W.kitOne K (.ref q.eP) (.ref q.eP) = some true
  u_eP_eL : PySem.W.kitOne K (.ref q.eP) (.ref q.eL) = some false
  u_eP_eU : PySem.W.kitOne K (.ref q.eP) (.ref q.eU) = some false
  x_eL : ExcC K q.eL
  m_eL : PySem.W.exmOne K (.ref q.eL) (.ref PE) = some true
  v_eL : PySem.W.kitOne K (.ref q.eL) (.type "ValueError") = some true
  u_eL_eI : PySem.W.kitOne K (.ref q.eL) (.ref q.eI) = some false
  u_eL_eS : PySem.W.kitOne K (.ref q.eL) (.ref q.eS) = some false
  u_eL_eT : PySem.W.kitOne K (.ref q.eL) (.ref q.eT) = some false
  u_eL_eP : PySem.W.kitOne K (.ref q.eL) (.ref q.eP) = some false
  u_eL_eL : PySem.W.kitOne K (.ref q.eL) (.ref q.eL) = some true
  u_eL_eU : PySem.W.kitOne K (.ref q.eL) (.ref q.eU) = some false
  x_eU : ExcC K q.eU
  m_eU : PySem.W.exmOne K (.ref q.eU) (.ref PE) = some true
  v_eU : PySem.W.kitOne K (.ref q.eU) (.type "ValueError") = some true
  u_eU_eI : PySem.W.kitOne K (.ref q.eU) (.ref q.eI) = some false
  u_eU_eS : PySem.W.kitOne K (.ref q.eU) (.ref q.eS) = some false
  u_eU_eT : PySem.W.kitOne K (.ref q.eU) (.ref q.eT) = some false
  u_eU_eP : PySem.W.kitOne K (.ref q.eU) (.ref q.eP) = some false
  u_eU_eL : PySem.W.kitOne K (.ref q.eU) (.ref q.eL) = some false
  u_eU_eU : PySem.W.kitOne K (.ref q.eU) (.ref q.eU) = some true
section
variable {P : Program} {w : World} {K : PySem.W.Frag} {mg : Str → Option Value} {base : Heap}
theorem ok_is_integer (T : Tb K mg) : FnOk P w K mg base CX0 1 T.a_is_integer T.d_is_integer ["value", "low", "high"] (spP 3 K M_is_integer) :=
  fn_pure T.F_is_integer sc_is_integer rfl (fun cdv A outer s H E hr => have hu := room65 hr
  (ses_cons (se_ret (me_of_fe (fe_and (fe_isi (by rfl) T.n_isinstance (by rfl) T.n_int (by decide +kernel) (wv 0)) (fe_and (fe_not (fe_isi (by rfl) T.n_isinstance (by rfl) T.n_bool (by decide +kernel) (wv 0))) (fe_one (fe_chain c_le c_le (wv 1) (wv 0) (wv 2)))))))
  ses_nil))
theorem ok_is_name (T : Tb K mg) : FnOk P w K mg base CX0 1 T.a_is_name T.d_is_name ["value"] (spP 1 K M_is_name) :=
  fn_pure T.F_is_name sc_is_name rfl (fun cdv A outer s H E hr => have hu := room65 hr
  (ses_cons (se_ret (me_of_fe (fe_and (fe_isi (by rfl) T.n_isinstance (by rfl) T.n_str (by decide +kernel) (wv 0)) (fe_and (fe_chain c_le c_le (we_of_fe fe_int) (we_of_fe (fe_len (by rfl) T.n_len (wv 0))) (we_of_fe fe_int)) (fe_one (fe_all rfl (by rfl) T.n_all (we_of_me (me_lc rfl sc_is_name.nd (ie_seq (fv 0)) (blkOk_by (own := [("sign", 1)]) (N := ["value", "sign"]) (sc := defScope s_is_name) (by decide +kernel)) (fun _ _ _ _ _ => (gb 1 sc_is_name.nd)) (fun _ _ _ _ _ => ifs_nil) (fun _ _ _ _ _ => (fe_cmp (c_in hu) (wv 1) (we_of_fe (fe_globS (by rfl) T.c_LETTERS)) (by rfl)))))))))))
  ses_nil))
theorem ok_mark_names (T : Tb K mg) : FnOk P w K mg base CX0 1 T.a_mark_names T.d_mark_names ["items"] (spP 1 K M_mark_names) :=
  fn_pure T.F_mark_names sc_mark_names rfl (fun cdv A outer s H E hr => have hu := room65 hr
  (ses_cons (se_ret (me_lc rfl sc_mark_names.nd (ie_seq (fv 0)) (blkOk_by (own := [("item", 1)]) (N := ["items", "item"]) (sc := defScope s_mark_names) (by decide +kernel)) (fun _ _ _ _ _ => (gb 1 sc_mark_names.nd)) (fun _ _ _ _ _ => (ifs_one (be_cmp (c_eq hu) (we_of_fe (fe_idx (wv 1) (we_of_fe fe_int))) (we_of_fe fe_str) (nomark _)))) (fun _ _ _ _ _ => (fe_idx (wv 1) (we_of_fe fe_int)))))
  ses_nil))
theorem ok__law_cell (T : Tb K mg) : FnOk P w K mg base CX0 1 T.a__law_cell T.d__law_cell ["script", "index"] (spP 2 K M__law_cell) :=
  fn_pure T.F__law_cell sc__law_cell rfl (fun cdv A outer s H E hr => have hu := room65 hr
  (ses_cons (se_if (be_cmp c_lt (wv 1) (we_of_fe (fe_len (by rfl) T.n_len (wv 0))) (nomark _)) (ses_cons (se_ret (me_of_fe (fe_idx (wv 0) (wv 1))))
  ses_nil) ses_nil)
  (ses_cons (se_if (be_cmp (c_eq hu) (we_of_fe (fe_len (by rfl) T.n_len (wv 0))) (we_of_fe fe_int) (nomark _)) (ses_cons (se_ret (me_add (we_of_me (me_mul (we_of_fe fe_int) (wv 1))) (we_of_fe fe_int)))
  ses_nil) ses_nil)
  (ses_cons (se_ret (me_add (we_of_fe (fe_mod (we_of_fe (fe_idx (wv 0) (we_of_fe (fe_mod (wv 1) (we_of_fe (fe_len (by rfl) T.n_len (wv 0))))))) (we_of_fe fe_int))) (we_of_me (me_mul (we_of_fe fe_int) (wv 1)))))
  ses_nil))))
theorem ok__law_is_integer (T : Tb K mg) : FnOk P w K mg base CX0 1 T.a__law_is_integer T.d__law_is_integer ["value", "low", "high"] (spP 3 K M__law_is_integer) :=
  fn_pure T.F__law_is_integer sc__law_is_integer rfl (fun cdv A outer s H E hr => have hu := room65 hr
  (ses_cons (se_ret (me_of_fe (fe_and (fe_isi (by rfl) T.n_isinstance (by rfl) T.n_int (by decide +kernel) (wv 0)) (fe_and (fe_not (fe_isi (by rfl) T.n_isinstance (by rfl) T.n_bool (by decide +kernel) (wv 0))) (fe_one (fe_chain c_le c_le (wv 1) (wv 0) (wv 2)))))))
  ses_nil))
theorem ok__law_valid (T : Tb K mg) : FnOk P w K mg base CX0 1 T.a__law_valid T.d__law_valid ["row"] (spP 1 K M__law_valid) :=
  fn_pure T.F__law_valid sc__law_valid rfl (fun cdv A outer s H E hr => have hu := room65 hr
  (ses_cons (ss 1 sc__law_valid.nd (me_of_fe (fe_of_me (me_lc rfl sc__law_valid.nd (ie_seq (fv 0)) (blkOk_by (own := [("item", 2)]) (N := ["row", "names", "item"]) (sc := defScope s__law_valid) (by decide +kernel)) (fun _ _ _ _ _ => (gb 2 sc__law_valid.nd)) (fun _ _ _ _ _ => (ifs_one (be_cmp (c_eq hu) (we_of_fe (fe_idx (wv 2) (we_of_fe fe_int))) (we_of_fe fe_str) (nomark _)))) (fun _ _ _ _ _ => (fe_idx (wv 2) (we_of_fe fe_int)))))))
  (ses_cons (se_if (be_w (bw_or (be_not (be_chain c_le c_le (we_of_fe fe_int) (we_of_fe (fe_len (by rfl) T.n_len (wv 0))) (we_of_fe fe_int))) (bw_or (be_cmp c_gt (we_of_fe (fe_len (by rfl) T.n_len (wv 1))) (we_of_fe fe_int) (nomark _)) (bw_or1 (be_cmp c_lt (we_of_fe (fe_len (by rfl) T.n_len (we_of_me (me_sortSet rfl (by rfl) T.n_sorted (by rfl) T.n_set (wv 1))))) (we_of_fe (fe_len (by rfl) T.n_len (wv 1))) (nomark _)))))) (ses_cons (se_ret (me_of_fe fe_bl))
  ses_nil) ses_nil)
  (ses_cons (se_ret (me_of_fe (fe_cmp (c_eq hu) (we_of_me (me_lc rfl sc__law_valid.nd (ie_seq (fv 0)) (blkOk_by (own := [("item", 2)]) (N := ["row", "names", "item"]) (sc := defScope s__law_valid) (by decide +kernel)) (fun _ _ _ _ _ => (gb 2 sc__law_valid.nd)) (fun _ _ _ _ _ => (ifs_one (be_w (bw_and (be_cmp (c_eq hu) (we_of_fe (fe_idx (wv 2) (we_of_fe fe_int))) (we_of_fe fe_str) (nomark _)) (bw_and1 (be_cmp (c_notin hu) (we_of_fe (fe_idx (wv 2) (we_of_fe fe_int))) (wv 1) (by rfl))))))) (fun _ _ _ _ _ => (fv 2)))) (we_of_me (me_lst ae_nil)) (nomark _))))
  ses_nil))))
theorem ok_is_item (T : Tb K mg) : FnOk P w K mg base CX0 2 T.a_is_item T.d_is_item ["value"] (spP 1 K M_is_item) :=
  fn_pure T.F_is_item sc_is_item rfl (fun cdv A outer s H E hr => have hu := room65 hr
  (ses_cons (se_if (be_w (bw_or (be_not (be_val (fe_isi (by rfl) T.n_isinstance (by rfl) T.n_tuple (by decide +kernel) (wv 0)))) (bw_or (be_not (be_chain c_le c_le (we_of_fe fe_int) (we_of_fe (fe_len (by rfl) T.n_len (wv 0))) (we_of_fe fe_int))) (bw_or1 (be_not (be_val (fe_isi (by rfl) T.n_isinstance (by rfl) T.n_str (by decide +kernel) (we_of_fe (fe_idx (wv 0) (we_of_fe fe_int)))))))))) (ses_cons (se_ret (me_of_fe fe_bl))
  ses_nil) ses_nil)
  (ses_cons (se_if (be_cmp (c_eq hu) (we_of_fe (fe_len (by rfl) T.n_len (wv 0))) (we_of_fe fe_int) (nomark _)) (ses_cons (se_ret (me_of_fe (fe_cmp (c_eq hu) (we_of_fe (fe_idx (wv 0) (we_of_fe fe_int))) (we_of_fe fe_str) (nomark _))))
  ses_nil) ses_nil)
  (ses_cons (se_if (be_cmp (c_eq hu) (we_of_fe (fe_idx (wv 0) (we_of_fe fe_int))) (we_of_fe fe_str) (nomark _)) (ses_cons (se_ret (me_call (ok_is_integer T) (hr.mono (by decide : 1 ≤ 1)) (by rfl) T.g_is_integer T.F_is_integer.kp T.b_is_integer (ae_cons (fe_idx (wv 0) (we_of_fe fe_int)) (ae_cons fe_int (ae_cons fe_int ae_nil)))))
  ses_nil) ses_nil)
  (ses_cons (se_ret (me_of_fe (fe_and (fe_cmp (c_in hu) (we_of_fe (fe_idx (wv 0) (we_of_fe fe_int))) (we_of_fe (fe_tup (ae_cons fe_str (ae_cons fe_str ae_nil)))) (by rfl)) (fe_one (fe_of_me (me_call (ok_is_name T) (hr.mono (by decide : 1 ≤ 1)) (by rfl) T.g_is_name T.F_is_name.kp T.b_is_name (ae_cons (fe_idx (wv 0) (we_of_fe fe_int)) ae_nil)))))))
  ses_nil)))))
theorem ok__law_digits (T : Tb K mg) : FnOk P w K mg base CX0 2 T.a__law_digits T.d__law_digits ["script", "index", "count", "base"] (spP 4 K M__law_digits) :=
  fn_pure T.F__law_digits sc__law_digits rfl (fun cdv A outer s H E hr => have hu := room65 hr
  (ses_cons (ss 4 sc__law_digits.nd (me_of_fe (fe_tup (ae_cons fe_int (ae_cons fe_int (ae_cons fe_int (ae_cons fe_int (ae_cons fe_int (ae_cons fe_int (ae_cons fe_int (ae_cons fe_int ae_nil)))))))))))
  (ses_cons (ss 5 sc__law_digits.nd (me_of_fe (fe_of_me (me_call (ok__law_cell T) (hr.mono (by decide : 1 ≤ 1)) (by rfl) T.g__law_cell T.F__law_cell.kp T.b__law_cell (ae_cons (fv 0) (ae_cons (fv 1) ae_nil))))))
  (ses_cons (ss 6 sc__law_digits.nd (me_of_fe (fe_if (be_cmp c_ge (wv 5) (we_of_fe (fe_pow (we_of_fe fe_int) (we_of_fe fe_int))) (nomark _)) (fv 5) fe_int)))
  (ses_cons (ss 7 sc__law_digits.nd (me_lst ae_nil))
  (ses_cons (se_for PassesOwn.never rfl (ie_range1 (by rfl) T.n_range (ae_cons (fv 2) ae_nil)) (gn 8 sc__law_digits.nd) (ses_cons (ss 9 sc__law_digits.nd (me_of_fe (fe_of_me (me_mul (we_of_fe (fe_mod (wv 5) (we_of_fe (fe_idx (wv 4) (we_of_fe (fe_mod (wv 8) (we_of_fe fe_int))))))) (we_of_me (me_add (we_of_fe fe_int) (we_of_me (me_mul (we_of_me (me_mul (we_of_fe fe_int) (wv 8))) (wv 8)))))))))
  (ses_cons (ss 9 sc__law_digits.nd (me_of_fe (fe_of_me (me_add (we_of_me (me_add (wv 9) (we_of_me (me_mul (we_of_me (me_mul (we_of_fe fe_int) (we_of_me (me_add (wv 8) (we_of_fe fe_int))))) (we_of_me (me_add (wv 8) (we_of_fe fe_int))))))) (we_of_me (me_mul (we_of_fe fe_int) (wv 1)))))))
  (ses_cons (ss 9 sc__law_digits.nd (me_of_fe (fe_mod (wv 9) (we_of_fe (fe_idx (wv 4) (we_of_fe (fe_mod (we_of_me (me_add (we_of_me (me_mul (we_of_fe fe_int) (wv 8))) (wv 1))) (we_of_fe fe_int))))))))
  (ses_cons (ss 9 sc__law_digits.nd (me_of_fe (fe_mod (we_of_me (me_mul (we_of_me (me_mul (wv 9) (wv 9))) (wv 9))) (we_of_fe (fe_idx (wv 4) (we_of_fe (fe_mod (we_of_me (me_add (wv 8) (we_of_fe fe_int))) (we_of_fe fe_int))))))))
  (ses_cons (se_if (be_cmp c_gt (wv 6) (we_of_fe fe_int) (nomark _)) (ses_cons (ss 9 sc__law_digits.nd (me_of_fe (fv 6)))
  ses_nil) ses_nil)
  (ses_cons (se_app 7 (by rfl) (vis_of (by rfl)) (fe_mod (wv 9) (wv 3)))
  (ses_cons (ss 6 sc__law_digits.nd (me_of_fe (fe_fdiv (wv 6) (wv 3))))
  ses_nil))))))))
  (ses_cons (se_retV 7 (by rfl) (vis_of (by rfl)))
  ses_nil)))))))
theorem ok_is_document (T : Tb K mg) : FnOk P w K mg base CX0 3 T.a_is_document T.d_is_document ["value"] (spP 1 K M_is_document) :=
  fn_pure T.F_is_document sc_is_document rfl (fun cdv A outer s H E hr => have hu := room65 hr
  (ses_cons (se_if (be_w (bw_or (be_not (be_val (fe_isi (by rfl) T.n_isinstance (by rfl) T.n_tuple (by decide +kernel) (wv 0)))) (bw_or (be_not (be_chain c_le c_le (we_of_fe fe_int) (we_of_fe (fe_len (by rfl) T.n_len (wv 0))) (we_of_fe fe_int))) (bw_or1 (be_not (be_val (fe_all rfl (by rfl) T.n_all (we_of_me (me_lc rfl sc_is_document.nd (ie_seq (fv 0)) (blkOk_by (own := [("item", 1)]) (N := ["value", "item", "names"]) (sc := defScope s_is_document) (by decide +kernel)) (fun _ _ _ _ _ => (gb 1 sc_is_document.nd)) (fun _ _ _ _ _ => ifs_nil) (fun _ _ _ _ _ => (fe_of_me (me_call (ok_is_item T) (hr.mono (by decide : 2 ≤ 2)) (by rfl) T.g_is_item T.F_is_item.kp T.b_is_item (ae_cons (fv 1) ae_nil))))))))))))) (ses_cons (se_ret (me_of_fe fe_bl))
  ses_nil) ses_nil)
  (ses_cons (ss 2 sc_is_document.nd (me_of_fe (fe_of_me (me_call (ok_mark_names T) (hr.mono (by decide : 1 ≤ 2)) (by rfl) T.g_mark_names T.F_mark_names.kp T.b_mark_names (ae_cons (fv 0) ae_nil)))))
  (ses_cons (se_if (be_w (bw_or (be_cmp c_gt (we_of_fe (fe_len (by rfl) T.n_len (wv 2))) (we_of_fe fe_int) (nomark _)) (bw_or1 (be_cmp c_lt (we_of_fe (fe_lenSet rfl (by rfl) T.n_len (by rfl) T.n_set (wv 2))) (we_of_fe (fe_len (by rfl) T.n_len (wv 2))) (nomark _))))) (ses_cons (se_ret (me_of_fe fe_bl))
  ses_nil) ses_nil)
  (ses_cons (se_ret (me_of_fe (fe_all rfl (by rfl) T.n_all (we_of_me (me_lc rfl sc_is_document.nd (ie_seq (fv 0)) (blkOk_by (own := [("item", 1)]) (N := ["value", "item", "names"]) (sc := defScope s_is_document) (by decide +kernel)) (fun _ _ _ _ _ => (gb 1 sc_is_document.nd)) (fun _ _ _ _ _ => (ifs_one (be_cmp (c_eq hu) (we_of_fe (fe_idx (wv 1) (we_of_fe fe_int))) (we_of_fe fe_str) (nomark _)))) (fun _ _ _ _ _ => (fe_cmp (c_in hu) (we_of_fe (fe_idx (wv 1) (we_of_fe fe_int))) (wv 2) (by rfl))))))))
  ses_nil)))))
theorem ok_Document___init___R {q : Ad} (T : To P K mg q) : FnK P w K mg base (L2N.CX P w) 4 T.f_Document___init__ "size" (spI K q.R (F_Document___init___R q)) := by
  obtain ⟨oc, od, doc, pm, an, cdv, ct, osl, D0, t, lk, hcd, hD⟩ := T.i_Document___init__.ex
  exact fnk_initC (k := 3) (dv := .int 1000) (dd := .int 1000) lk hcd sc_Document___init__ rfl (by decide) T.oR (starB_of (fun _ _ => ⟨_, _, _, _, _, _, rfl, rfl, rfl⟩) (fun _ _ _ _ => ⟨_, _, _, _, _, _, rfl, rfl, rfl⟩) (fun _ _ => rfl) fun _ _ _ _ => rfl) hD ⟨t, rfl⟩ (fun _ => repF_int) (fun A outer s H H0 E hr => have hu := room65 hr
  (sos_cons (so_if (be_not (be_val (fe_of_me (me_call (ok_is_document T.tb) (hr.mono (by decide : 3 ≤ 3)) (by rfl) T.tb.g_is_document T.tb.F_is_document.kp T.tb.b_is_document (ae_cons (fv 2) ae_nil))))) (sos_cons (so_raise (L2N.ps_raise rfl (L2N.takes_of rfl rfl rfl rfl) (L2N.pmk_own PySem.F.excBase_ValueError T.eI.x T.eI.g T.eI.k (raises_own T.eI.b T.eI.t) (by rfl))))
  sos_nil) sos_nil)
  (sos_cons (so_if (be_not (be_val (fe_of_me (me_call (ok_is_integer T.tb) (hr.mono (by decide : 1 ≤ 3)) (by rfl) T.tb.g_is_integer T.tb.F_is_integer.kp T.tb.b_is_integer (ae_cons (fv 1) (ae_cons fe_int (ae_cons fe_int ae_nil))))))) (sos_cons (so_raise (L2N.ps_raise rfl (L2N.takes_of rfl rfl rfl rfl) (L2N.pmk_own PySem.F.excBase_ValueError T.eS.x T.eS.g T.eS.k (raises_own T.eS.b T.eS.t) (by rfl))))
  sos_nil) sos_nil)
  (sos_cons (so_fld 0 0 rfl (vis_of (by rfl)) (fv 2))
  (sos_cons (so_fld 0 1 rfl (vis_of (by rfl)) (fv 1))
  sos_nil)))))
theorem ok_Document_names_R {q : Ad} (T : To P K mg q) : FnOk P w K mg base (L2N.CX P w) 2 T.f_Document_names T.d_Document_names ["self"] (spR K q.R 0 (F_Document_names_R q)) :=
  fn_readC (k := 1) T.i_Document_names sc_Document_names rfl rfl (by decide) T.oR (fun cdv A outer s H E hr => have hu := room65 hr
  (rs_ret (fe_tuple (by rfl) T.tb.n_tuple (we_of_me (me_call (ok_mark_names T.tb) (hr.mono (by decide : 1 ≤ 1)) (by rfl) T.tb.g_mark_names T.tb.F_mark_names.kp T.tb.b_mark_names (ae_cons (fe_fld 0 (wv 0)) ae_nil))))))
theorem ok_Draft___init___R {q : Ad} (T : To P K mg q) : FnK P w K mg base (L2N.CX P w) 5 T.f_Draft___init__ "size" (spI K q.R (F_Draft___init___R q)) := by
  obtain ⟨oc, od, kV, doc, pm, an, cda, ct, osl, cc, ccl, cod, csl, kcl, kod, vs, ksl, file, tf, lk, hcd, hcc, hk, hv, hfile, D0, t, rfl, hD⟩ := T.i_Draft___init__.ex
  exact fnk_init_supC (k := 4) (dv := .int 1000) (dd := .int 1000) lk hcd hcc sc_Draft___init__ rfl (by decide) T.oR (starB_of (fun _ _ => ⟨_, _, _, _, _, _, rfl, rfl, rfl⟩) (fun _ _ _ _ => ⟨_, _, _, _, _, _, rfl, rfl, rfl⟩) (fun _ _ => rfl) fun _ _ _ _ => rfl) hD ⟨t, rfl⟩ (fun _ => repF_int) (fun A outer s H H0 E hr => have SE := sup_at (A := A) (outer := outer) (s := s) (H := H) (E := E) (w := w) (base := base) sc_Draft___init__ T.SR rfl rfl lk rfl rfl hcc hk hv hfile
  have hu := room65 hr
  (aos_cons (ao_expr (ae_sup_i SE T.mroR T.s_Document___init___R (ok_Document___init___R T) (hr.mono (by decide : 4 ≤ 4)) (L2N.passes_call (L2N.takes_of rfl rfl rfl rfl) (fun _ _ _ _ h => h)) (fv 2) (fv 1)))
  (aos_cons (ao_of (so_fld 0 2 rfl (vis_of (by rfl)) (fe_of_me (me_mul (we_of_fe (fe_tup (ae_cons fe_int ae_nil))) (we_of_fe (fe_len (by rfl) T.tb.n_len (we_of_fe (fe_prop (wv 0) T.oR.cls T.p_Document_names_R (ok_Document_names_R T) (hr.mono (by decide : 3 ≤ 4)) T.b_Document_names_R passE0))))))))
  (aos_of sos_nil))))
theorem ok_Document___init___D {q : Ad} (T : To P K mg q) : FnK P w K mg base (L2N.CX P w) 4 T.f_Document___init__ "size" (spI K q.D (F_Document___init___D q)) := by
  obtain ⟨oc, od, doc, pm, an, cdv, ct, osl, D0, t, lk, hcd, hD⟩ := T.i_Document___init__.ex
  exact fnk_initC (k := 3) (dv := .int 1000) (dd := .int 1000) lk hcd sc_Document___init__ rfl (by decide) T.oD (starB_of (fun _ _ => ⟨_, _, _, _, _, _, rfl, rfl, rfl⟩) (fun _ _ _ _ => ⟨_, _, _, _, _, _, rfl, rfl, rfl⟩) (fun _ _ => rfl) fun _ _ _ _ => rfl) hD ⟨t, rfl⟩ (fun _ => repF_int) (fun A outer s H H0 E hr => have hu := room65 hr
  (sos_cons (so_if (be_not (be_val (fe_of_me (me_call (ok_is_document T.tb) (hr.mono (by decide : 3 ≤ 3)) (by rfl) T.tb.g_is_document T.tb.F_is_document.kp T.tb.b_is_document (ae_cons (fv 2) ae_nil))))) (sos_cons (so_raise (L2N.ps_raise rfl (L2N.takes_of rfl rfl rfl rfl) (L2N.pmk_own PySem.F.excBase_ValueError T.eI.x T.eI.g T.eI.k (raises_own T.eI.b T.eI.t) (by rfl))))
  sos_nil) sos_nil)
  (sos_cons (so_if (be_not (be_val (fe_of_me (me_call (ok_is_integer T.tb) (hr.mono (by decide : 1 ≤ 3)) (by rfl) T.tb.g_is_integer T.tb.F_is_integer.kp T.tb.b_is_integer (ae_cons (fv 1) (ae_cons fe_int (ae_cons fe_int ae_nil))))))) (sos_cons (so_raise (L2N.ps_raise rfl (L2N.takes_of rfl rfl rfl rfl) (L2N.pmk_own PySem.F.excBase_ValueError T.eS.x T.eS.g T.eS.k (raises_own T.eS.b T.eS.t) (by rfl))))
  sos_nil) sos_nil)
  (sos_cons (so_fld 0 0 rfl (vis_of (by rfl)) (fv 2))
  (sos_cons (so_fld 0 1 rfl (vis_of (by rfl)) (fv 1))
  sos_nil)))))
theorem ok_Document_change_R {q : Ad} (T : To P K mg q) : FnOk P w K mg base (L2N.CX P w) 1 T.f_Document_change T.d_Document_change ["self", "items"] (spM K q.R 1 (F_Document_change_R q)) :=
  fn_methC (k := 0) T.i_Document_change sc_Document_change rfl rfl (by decide) T.oR (fun cdv A outer s H H0 E hr => have hu := room65 hr
  (sos_cons (so_fld 0 0 rfl (vis_of (by rfl)) (fv 1))
  sos_nil))
theorem ok_Draft_change_R {q : Ad} (T : To P K mg q) : FnR P w K mg base (L2N.CX P w) 4 T.f_Draft_change (spM K q.R 1 (F_Draft_change_R q)) := by
  obtain ⟨oc, od, kV, doc, pm, an, cda, ct, osl, cc, ccl, cod, csl, kcl, kod, vs, ksl, file, tf, lk, hcd, hcc, hk, hv, hfile, _⟩ := T.i_Draft_change.ex
  exact fnr_supC (k := 3) lk hcd hcc sc_Draft_change rfl (by decide) rfl T.oR (fun us hl => match us, hl with | [_, _], _ => rfl) (fun A outer s H H0 E hr => have SE := sup_at (A := A) (outer := outer) (s := s) (H := H) (E := E) (w := w) (base := base) sc_Draft_change T.SR rfl rfl lk rfl rfl hcc hk hv hfile
  have hu := room65 hr
  (aos_cons (ao_of (so_of fun H0 => (ss 2 sc_Draft_change.nd (me_of_fe (fe_dc rfl sc_Draft_change.nd (ie_zip (by rfl) T.tb.n_zip (fe_prop (wv 0) T.oR.cls T.p_Document_names_R (ok_Document_names_R T) (hr.mono (by decide : 3 ≤ 3)) T.b_Document_names_R passE0) (fe_fld 2 (wv 0))) (blkOk_by (own := [("name", 3), ("number", 4)]) (N := ["self", "items", "known", "name", "number"]) (sc := defScope s_Draft_change) (by decide +kernel)) (fun _ _ _ _ _ => (ge_tup rfl (ges_cons (gb 3 sc_Draft_change.nd) (ges_cons (gb 4 sc_Draft_change.nd) ges_nil)))) (fun _ _ _ _ _ => ifs_nil) (fun _ _ _ _ _ => (fv 3)) (fun _ _ _ _ _ => (fv 4)))))))
  (aos_cons (ao_expr (ae_sup_m SE T.mroR T.s_Document_change_R (fnr_of (ok_Document_change_R T) T.b_Document_change_R) (hr.mono (by decide : 1 ≤ 3)) (L2N.passes_call (L2N.takes_of rfl rfl rfl rfl) (fun _ _ _ _ h => h)) (ae_cons (fv 1) ae_nil)))
  (aos_cons (ao_of (so_fld 0 2 rfl (vis_of (by rfl)) (fe_tuple (by rfl) T.tb.n_tuple (we_of_me (me_lc rfl sc_Draft_change.nd (ie_seq (fe_prop (wv 0) T.oR.cls T.p_Document_names_R (ok_Document_names_R T) (hr.mono (by decide : 3 ≤ 3)) T.b_Document_names_R passE0)) (blkOk_by (own := [("name", 3)]) (N := ["self", "items", "known", "name", "number"]) (sc := defScope s_Draft_change) (by decide +kernel)) (fun _ _ _ _ _ => (gb 3 sc_Draft_change.nd)) (fun _ _ _ _ _ => ifs_nil) (fun _ _ _ _ _ => (fe_dget2 hu (wv 2) (fv 3) fe_int ⟨rfl, rfl, rfl, rfl⟩)))))))
  (aos_of sos_nil)))))
theorem ok_Document_insert_R {q : Ad} (T : To P K mg q) : FnR P w K mg base (L2N.CX P w) 5 T.f_Document_insert (spMS K q.R (F_Document_insert_R q)) := by
  obtain ⟨oc, od, kV, doc, pm, an, cdv, ct, osl, e, lk, hcd⟩ := T.i_Document_insert.ex
  rw [e] at lk
  exact fnr_starPC (k := 4) lk hcd sc_Document_insert rfl (by decide) T.oR (starP_of (fun _ _ => rfl) fun _ _ _ _ => rfl) (fun A outer s H H0 E hr => have hu := room65 hr
  (sos_cons (so_if (be_not (be_val (fe_of_me (me_call (ok_is_integer T.tb) (hr.mono (by decide : 1 ≤ 4)) (by rfl) T.tb.g_is_integer T.tb.F_is_integer.kp T.tb.b_is_integer (ae_cons (fv 1) (ae_cons fe_int (ae_cons (fe_len (by rfl) T.tb.n_len (we_of_fe (fe_fld 0 (wv 0)))) ae_nil))))))) (sos_cons (so_raise (L2N.ps_raise rfl (L2N.takes_of rfl rfl rfl rfl) (L2N.pmk_own PySem.F.excBase_ValueError T.eP.x T.eP.g T.eP.k (raises_own T.eP.b T.eP.t) (by rfl))))
  sos_nil) sos_nil)
  (sos_cons (so_of fun H0 => (ss 3 sc_Document_insert.nd (me_of_fe (fe_of_me (me_add (we_of_me (me_add (we_of_me (me_sl (we_of_fe (fe_fld 0 (wv 0))) oe_none (oe_some (wv 1)))) (wv 2))) (we_of_me (me_sl (we_of_fe (fe_fld 0 (wv 0))) (oe_some (wv 1)) oe_none)))))))
  (sos_cons (so_if (be_not (be_val (fe_of_me (me_call (ok_is_document T.tb) (hr.mono (by decide : 3 ≤ 4)) (by rfl) T.tb.g_is_document T.tb.F_is_document.kp T.tb.b_is_document (ae_cons (fv 3) ae_nil))))) (sos_cons (so_raise (L2N.ps_raise rfl (L2N.takes_of rfl rfl rfl rfl) (L2N.pmk_own PySem.F.excBase_ValueError T.eI.x T.eI.g T.eI.k (raises_own T.eI.b T.eI.t) (by rfl))))
  sos_nil) sos_nil)
  (sos_cons (so_expr (ze_meth 0 rfl (vis_of (by rfl)) T.oR.cls T.m_Draft_change_R (ok_Draft_change_R T) (hr.mono (by decide : 4 ≤ 4)) (L2N.passes_call (L2N.takes_of rfl rfl rfl rfl) (fun _ _ _ _ h => h)) (ae_cons (fv 3) ae_nil)))
  sos_nil)))))
theorem ok__law_put_R {q : Ad} (T : To P K mg q) : FnOk P w K mg base (L2N.CX P w) 6 T.f__law_put T.d__law_put ["made", "place", "row"] (spM K q.R 2 (F__law_put_R q)) :=
  fn_methC (k := 5) T.i__law_put sc__law_put rfl rfl (by decide) T.oR (fun cdv A outer s H H0 E hr => have hu := room65 hr
  (sos_cons (so_if (be_cmp (c_eq hu) (we_of_fe (fe_len (by rfl) T.tb.n_len (wv 2))) (we_of_fe fe_int) (nomark _)) (sos_cons (so_retZ (ze_methS 0 rfl (vis_of (by rfl)) T.oR.cls T.m_Document_insert_R (ok_Document_insert_R T) (hr.mono (by decide : 5 ≤ 5)) (L2N.passes_call (L2N.takes_of rfl rfl rfl rfl) (fun _ _ _ _ h => h)) (ae_cons (fv 1) (ae_cons (fe_idx (wv 2) (we_of_fe fe_int)) ae_nil))))
  sos_nil) sos_nil)
  (sos_cons (so_if (be_cmp (c_eq hu) (we_of_fe (fe_len (by rfl) T.tb.n_len (wv 2))) (we_of_fe fe_int) (nomark _)) (sos_cons (so_retZ (ze_methS 0 rfl (vis_of (by rfl)) T.oR.cls T.m_Document_insert_R (ok_Document_insert_R T) (hr.mono (by decide : 5 ≤ 5)) (L2N.passes_call (L2N.takes_of rfl rfl rfl rfl) (fun _ _ _ _ h => h)) (ae_cons (fv 1) (ae_cons (fe_idx (wv 2) (we_of_fe fe_int)) (ae_cons (fe_idx (wv 2) (we_of_fe fe_int)) ae_nil)))))
  sos_nil) sos_nil)
  (sos_cons (so_retZ (ze_methS 0 rfl (vis_of (by rfl)) T.oR.cls T.m_Document_insert_R (ok_Document_insert_R T) (hr.mono (by decide : 5 ≤ 5)) (L2N.passes_call (L2N.takes_of rfl rfl rfl rfl) (fun _ _ _ _ h => h)) (ae_cons (fv 1) (ae_cons (fe_idx (wv 2) (we_of_fe fe_int)) (ae_cons (fe_idx (wv 2) (we_of_fe fe_int)) (ae_cons (fe_idx (wv 2) (we_of_fe fe_int)) ae_nil))))))
  sos_nil))))
theorem ok_Document_change_D {q : Ad} (T : To P K mg q) : FnOk P w K mg base (L2N.CX P w) 1 T.f_Document_change T.d_Document_change ["self", "items"] (spM K q.D 1 (F_Document_change_D q)) :=
  fn_methC (k := 0) T.i_Document_change sc_Document_change rfl rfl (by decide) T.oD (fun cdv A outer s H H0 E hr => have hu := room65 hr
  (sos_cons (so_fld 0 0 rfl (vis_of (by rfl)) (fv 1))
  sos_nil))
theorem ok_Document_insert_D {q : Ad} (T : To P K mg q) : FnR P w K mg base (L2N.CX P w) 4 T.f_Document_insert (spMS K q.D (F_Document_insert_D q)) := by
  obtain ⟨oc, od, kV, doc, pm, an, cdv, ct, osl, e, lk, hcd⟩ := T.i_Document_insert.ex
  rw [e] at lk
  exact fnr_starPC (k := 3) lk hcd sc_Document_insert rfl (by decide) T.oD (starP_of (fun _ _ => rfl) fun _ _ _ _ => rfl) (fun A outer s H H0 E hr => have hu := room65 hr
  (sos_cons (so_if (be_not (be_val (fe_of_me (me_call (ok_is_integer T.tb) (hr.mono (by decide : 1 ≤ 3)) (by rfl) T.tb.g_is_integer T.tb.F_is_integer.kp T.tb.b_is_integer (ae_cons (fv 1) (ae_cons fe_int (ae_cons (fe_len (by rfl) T.tb.n_len (we_of_fe (fe_fld 0 (wv 0)))) ae_nil))))))) (sos_cons (so_raise (L2N.ps_raise rfl (L2N.takes_of rfl rfl rfl rfl) (L2N.pmk_own PySem.F.excBase_ValueError T.eP.x T.eP.g T.eP.k (raises_own T.eP.b T.eP.t) (by rfl))))
  sos_nil) sos_nil)
  (sos_cons (so_of fun H0 => (ss 3 sc_Document_insert.nd (me_of_fe (fe_of_me (me_add (we_of_me (me_add (we_of_me (me_sl (we_of_fe (fe_fld 0 (wv 0))) oe_none (oe_some (wv 1)))) (wv 2))) (we_of_me (me_sl (we_of_fe (fe_fld 0 (wv 0))) (oe_some (wv 1)) oe_none)))))))
  (sos_cons (so_if (be_not (be_val (fe_of_me (me_call (ok_is_document T.tb) (hr.mono (by decide : 3 ≤ 3)) (by rfl) T.tb.g_is_document T.tb.F_is_document.kp T.tb.b_is_document (ae_cons (fv 3) ae_nil))))) (sos_cons (so_raise (L2N.ps_raise rfl (L2N.takes_of rfl rfl rfl rfl) (L2N.pmk_own PySem.F.excBase_ValueError T.eI.x T.eI.g T.eI.k (raises_own T.eI.b T.eI.t) (by rfl))))
  sos_nil) sos_nil)
  (sos_cons (so_expr (ze_meth 0 rfl (vis_of (by rfl)) T.oD.cls T.m_Document_change_D (fnr_of (ok_Document_change_D T) T.b_Document_change_D) (hr.mono (by decide : 1 ≤ 3)) (L2N.passes_call (L2N.takes_of rfl rfl rfl rfl) (fun _ _ _ _ h => h)) (ae_cons (fv 3) ae_nil)))
  sos_nil)))))
theorem ok__law_put_D {q : Ad} (T : To P K mg q) : FnOk P w K mg base (L2N.CX P w) 5 T.f__law_put T.d__law_put ["made", "place", "row"] (spM K q.D 2 (F__law_put_D q)) :=
  fn_methC (k := 4) T.i__law_put sc__law_put rfl rfl (by decide) T.oD (fun cdv A outer s H H0 E hr => have hu := room65 hr
  (sos_cons (so_if (be_cmp (c_eq hu) (we_of_fe (fe_len (by rfl) T.tb.n_len (wv 2))) (we_of_fe fe_int) (nomark _)) (sos_cons (so_retZ (ze_methS 0 rfl (vis_of (by rfl)) T.oD.cls T.m_Document_insert_D (ok_Document_insert_D T) (hr.mono (by decide : 4 ≤ 4)) (L2N.passes_call (L2N.takes_of rfl rfl rfl rfl) (fun _ _ _ _ h => h)) (ae_cons (fv 1) (ae_cons (fe_idx (wv 2) (we_of_fe fe_int)) ae_nil))))
  sos_nil) sos_nil)
  (sos_cons (so_if (be_cmp (c_eq hu) (we_of_fe (fe_len (by rfl) T.tb.n_len (wv 2))) (we_of_fe fe_int) (nomark _)) (sos_cons (so_retZ (ze_methS 0 rfl (vis_of (by rfl)) T.oD.cls T.m_Document_insert_D (ok_Document_insert_D T) (hr.mono (by decide : 4 ≤ 4)) (L2N.passes_call (L2N.takes_of rfl rfl rfl rfl) (fun _ _ _ _ h => h)) (ae_cons (fv 1) (ae_cons (fe_idx (wv 2) (we_of_fe fe_int)) (ae_cons (fe_idx (wv 2) (we_of_fe fe_int)) ae_nil)))))
  sos_nil) sos_nil)
  (sos_cons (so_retZ (ze_methS 0 rfl (vis_of (by rfl)) T.oD.cls T.m_Document_insert_D (ok_Document_insert_D T) (hr.mono (by decide : 4 ≤ 4)) (L2N.passes_call (L2N.takes_of rfl rfl rfl rfl) (fun _ _ _ _ h => h)) (ae_cons (fv 1) (ae_cons (fe_idx (wv 2) (we_of_fe fe_int)) (ae_cons (fe_idx (wv 2) (we_of_fe fe_int)) (ae_cons (fe_idx (wv 2) (we_of_fe fe_int)) ae_nil))))))
  sos_nil))))
theorem ok_Document_remove_R {q : Ad} (T : To P K mg q) : FnOk P w K mg base (L2N.CX P w) 5 T.f_Document_remove T.d_Document_remove ["self", "place"] (spM K q.R 1 (F_Document_remove_R q)) :=
  fn_methC (k := 4) T.i_Document_remove sc_Document_remove rfl rfl (by decide) T.oR (fun cdv A outer s H H0 E hr => have hu := room65 hr
  (sos_cons (so_if (be_not (be_val (fe_of_me (me_call (ok_is_integer T.tb) (hr.mono (by decide : 1 ≤ 4)) (by rfl) T.tb.g_is_integer T.tb.F_is_integer.kp T.tb.b_is_integer (ae_cons (fv 1) (ae_cons fe_int (ae_cons (fe_sub (we_of_fe (fe_len (by rfl) T.tb.n_len (we_of_fe (fe_fld 0 (wv 0))))) (we_of_fe fe_int)) ae_nil))))))) (sos_cons (so_raise (L2N.ps_raise rfl (L2N.takes_of rfl rfl rfl rfl) (L2N.pmk_own PySem.F.excBase_ValueError T.eP.x T.eP.g T.eP.k (raises_own T.eP.b T.eP.t) (by rfl))))
  sos_nil) sos_nil)
  (sos_cons (so_of fun H0 => (ss 2 sc_Document_remove.nd (me_of_fe (fe_of_me (me_add (we_of_me (me_sl (we_of_fe (fe_fld 0 (wv 0))) oe_none (oe_some (wv 1)))) (we_of_me (me_sl (we_of_fe (fe_fld 0 (wv 0))) (oe_some (we_of_me (me_add (wv 1) (we_of_fe fe_int)))) oe_none)))))))
  (sos_cons (so_if (be_not (be_val (fe_of_me (me_call (ok_is_document T.tb) (hr.mono (by decide : 3 ≤ 4)) (by rfl) T.tb.g_is_document T.tb.F_is_document.kp T.tb.b_is_document (ae_cons (fv 2) ae_nil))))) (sos_cons (so_raise (L2N.ps_raise rfl (L2N.takes_of rfl rfl rfl rfl) (L2N.pmk_own PySem.F.excBase_ValueError T.eI.x T.eI.g T.eI.k (raises_own T.eI.b T.eI.t) (by rfl))))
  sos_nil) sos_nil)
  (sos_cons (so_of fun H0 => (ss 3 sc_Document_remove.nd (me_of_fe (fe_idx (we_of_fe (fe_fld 0 (wv 0))) (wv 1)))))
  (sos_cons (so_expr (ze_meth 0 rfl (vis_of (by rfl)) T.oR.cls T.m_Draft_change_R (ok_Draft_change_R T) (hr.mono (by decide : 4 ≤ 4)) (L2N.passes_call (L2N.takes_of rfl rfl rfl rfl) (fun _ _ _ _ h => h)) (ae_cons (fv 2) ae_nil)))
  (sos_cons (so_ret (me_of_fe (fv 3)))
  sos_nil)))))))
theorem ok_Document_remove_D {q : Ad} (T : To P K mg q) : FnOk P w K mg base (L2N.CX P w) 4 T.f_Document_remove T.d_Document_remove ["self", "place"] (spM K q.D 1 (F_Document_remove_D q)) :=
  fn_methC (k := 3) T.i_Document_remove sc_Document_remove rfl rfl (by decide) T.oD (fun cdv A outer s H H0 E hr => have hu := room65 hr
  (sos_cons (so_if (be_not (be_val (fe_of_me (me_call (ok_is_integer T.tb) (hr.mono (by decide : 1 ≤ 3)) (by rfl) T.tb.g_is_integer T.tb.F_is_integer.kp T.tb.b_is_integer (ae_cons (fv 1) (ae_cons fe_int (ae_cons (fe_sub (we_of_fe (fe_len (by rfl) T.tb.n_len (we_of_fe (fe_fld 0 (wv 0))))) (we_of_fe fe_int)) ae_nil))))))) (sos_cons (so_raise (L2N.ps_raise rfl (L2N.takes_of rfl rfl rfl rfl) (L2N.pmk_own PySem.F.excBase_ValueError T.eP.x T.eP.g T.eP.k (raises_own T.eP.b T.eP.t) (by rfl))))
  sos_nil) sos_nil)
  (sos_cons (so_of fun H0 => (ss 2 sc_Document_remove.nd (me_of_fe (fe_of_me (me_add (we_of_me (me_sl (we_of_fe (fe_fld 0 (wv 0))) oe_none (oe_some (wv 1)))) (we_of_me (me_sl (we_of_fe (fe_fld 0 (wv 0))) (oe_some (we_of_me (me_add (wv 1) (we_of_fe fe_int)))) oe_none)))))))
  (sos_cons (so_if (be_not (be_val (fe_of_me (me_call (ok_is_document T.tb) (hr.mono (by decide : 3 ≤ 3)) (by rfl) T.tb.g_is_document T.tb.F_is_document.kp T.tb.b_is_document (ae_cons (fv 2) ae_nil))))) (sos_cons (so_raise (L2N.ps_raise rfl (L2N.takes_of rfl rfl rfl rfl) (L2N.pmk_own PySem.F.excBase_ValueError T.eI.x T.eI.g T.eI.k (raises_own T.eI.b T.eI.t) (by rfl))))
  sos_nil) sos_nil)
  (sos_cons (so_of fun H0 => (ss 3 sc_Document_remove.nd (me_of_fe (fe_idx (we_of_fe (fe_fld 0 (wv 0))) (wv 1)))))
  (sos_cons (so_expr (ze_meth 0 rfl (vis_of (by rfl)) T.oD.cls T.m_Document_change_D (fnr_of (ok_Document_change_D T) T.b_Document_change_D) (hr.mono (by decide : 1 ≤ 3)) (L2N.passes_call (L2N.takes_of rfl rfl rfl rfl) (fun _ _ _ _ h => h)) (ae_cons (fv 2) ae_nil)))
  (sos_cons (so_ret (me_of_fe (fv 3)))
  sos_nil)))))))
theorem ok_Document___len___R {q : Ad} (T : To P K mg q) : FnOk P w K mg base (L2N.CX P w) 1 T.f_Document___len__ T.d_Document___len__ ["self"] (spR K q.R 0 (F_Document___len___R q)) :=
  fn_readC (k := 0) T.i_Document___len__ sc_Document___len__ rfl rfl (by decide) T.oR (fun cdv A outer s H E hr => have hu := room65 hr
  (rs_ret (fe_len (by rfl) T.tb.n_len (we_of_fe (fe_fld 0 (wv 0))))))
theorem ok_Document___len___D {q : Ad} (T : To P K mg q) : FnOk P w K mg base (L2N.CX P w) 1 T.f_Document___len__ T.d_Document___len__ ["self"] (spR K q.D 0 (F_Document___len___D q)) :=
  fn_readC (k := 0) T.i_Document___len__ sc_Document___len__ rfl rfl (by decide) T.oD (fun cdv A outer s H E hr => have hu := room65 hr
  (rs_ret (fe_len (by rfl) T.tb.n_len (we_of_fe (fe_fld 0 (wv 0))))))
theorem ok_Document_content_R {q : Ad} (T : To P K mg q) : FnOk P w K mg base (L2N.CX P w) 1 T.f_Document_content T.d_Document_content ["self"] (spR K q.R 0 (F_Document_content_R q)) :=
  fn_readC (k := 0) T.i_Document_content sc_Document_content rfl rfl (by decide) T.oR (fun cdv A outer s H E hr => have hu := room65 hr
  (rs_ret (fe_fld 0 (wv 0))))
theorem ok_Document_content_D {q : Ad} (T : To P K mg q) : FnOk P w K mg base (L2N.CX P w) 1 T.f_Document_content T.d_Document_content ["self"] (spR K q.D 0 (F_Document_content_D q)) :=
  fn_readC (k := 0) T.i_Document_content sc_Document_content rfl rfl (by decide) T.oD (fun cdv A outer s H E hr => have hu := room65 hr
  (rs_ret (fe_fld 0 (wv 0))))
theorem ok_err {q : Ad} (T : To P K mg q) {D0 : Addr} {b_eI b_eS b_eT b_eP b_eL b_eU : Bool} {t : Str} (C : ExcC K D0) (h_eI : PySem.W.kitOne K (.ref D0) (.ref q.eI) = some b_eI) (h_eS : PySem.W.kitOne K (.ref D0) (.ref q.eS) = some b_eS) (h_eT : PySem.W.kitOne K (.ref D0) (.ref q.eT) = some b_eT) (h_eP : PySem.W.kitOne K (.ref D0) (.ref q.eP) = some b_eP) (h_eL : PySem.W.kitOne K (.ref D0) (.ref q.eL) = some b_eL) (h_eU : PySem.W.kitOne K (.ref D0) (.ref q.eU) = some b_eU) (h_v : PySem.W.kitOne K (.ref D0) (.type "ValueError") = some true)
    (hg : ∀ a, B__law_error a b_eI b_eS b_eT b_eP b_eL b_eU (some (.adr a) :: List.replicate 4 none) = some (.rt (.str t))) : FnE P w K mg base 1 T.f__law_error D0 t :=
  fnE_of (k := 0) (g := fun a => B__law_error a b_eI b_eS b_eT b_eP b_eL b_eU) T.i__law_error sc__law_error (fun _ _ _ _ _ _ _ => rfl) (fun cdv A outer s H E p hot hz hr => by
    obtain ⟨a, oe⟩ := p
    have hp : (a, oe) ∈ (cxE P w K mg base ["e", "classes", "words", "word", "good"] "_law_error" s__law_error T.f__law_error cdv A outer s H E (a, oe)).pn := List.mem_singleton.mpr rfl
    have hot3 := hot_in (X := cxE P w K mg base ["e", "classes", "words", "word", "good"] "_law_error" s__law_error T.f__law_error cdv A outer s H E (a, oe)) hot hp
    have hot4 : ∀ pins σ H1 s1, Inv (cxE P w K mg base ["e", "classes", "words", "word", "good"] "_law_error" s__law_error T.f__law_error cdv A outer s H E (a, oe)) pins σ H1 s1 → a < s1.heap.objs.size := fun pins σ H1 s1 I => by
      obtain ⟨_, o, vs, e1, _⟩ := (hot3 pins σ H1 s1 I).1
      exact PySem.Heap.lt_size e1
    have hf : ∃ vs, oe.data = .fields vs := by obtain ⟨_, vs, e, _⟩ := hot; exact ⟨vs, e⟩
    have hz : Zc (.ref D0) none oe := ⟨hz.1, hz.2.1⟩
    exact (ses_cons (ss 1 sc__law_error.nd (me_lst (ae_cons (fe_isE (c := .ref q.eI) (cv := .ref q.eI) 0 hp C hz hf (by rfl) T.tb.n_isinstance rfl (vis_of (by rfl)) (L2.pe_glob (v := .ref q.eI) (by rfl) T.eI.g rfl) (fun u r => r) h_eI) (ae_cons (fe_isE (c := .ref q.eS) (cv := .ref q.eS) 0 hp C hz hf (by rfl) T.tb.n_isinstance rfl (vis_of (by rfl)) (L2.pe_glob (v := .ref q.eS) (by rfl) T.eS.g rfl) (fun u r => r) h_eS) (ae_cons (fe_isE (c := .ref q.eT) (cv := .ref q.eT) 0 hp C hz hf (by rfl) T.tb.n_isinstance rfl (vis_of (by rfl)) (L2.pe_glob (v := .ref q.eT) (by rfl) T.eT.g rfl) (fun u r => r) h_eT) ae_nil)))))
  (ses_cons (ss 1 sc__law_error.nd (me_add (wv 1) (we_of_me (me_lst (ae_cons (fe_isE (c := .ref q.eP) (cv := .ref q.eP) 0 hp C hz hf (by rfl) T.tb.n_isinstance rfl (vis_of (by rfl)) (L2.pe_glob (v := .ref q.eP) (by rfl) T.eP.g rfl) (fun u r => r) h_eP) (ae_cons (fe_isE (c := .ref q.eL) (cv := .ref q.eL) 0 hp C hz hf (by rfl) T.tb.n_isinstance rfl (vis_of (by rfl)) (L2.pe_glob (v := .ref q.eL) (by rfl) T.eL.g rfl) (fun u r => r) h_eL) (ae_cons (fe_isE (c := .ref q.eU) (cv := .ref q.eU) 0 hp C hz hf (by rfl) T.tb.n_isinstance rfl (vis_of (by rfl)) (L2.pe_glob (v := .ref q.eU) (by rfl) T.eU.g rfl) (fun u r => r) h_eU) ae_nil)))))))
  (ses_cons (ss 2 sc__law_error.nd (me_of_fe (fe_of_me (me_lst (ae_cons fe_str (ae_cons fe_str (ae_cons fe_str (ae_cons fe_str (ae_cons fe_str (ae_cons fe_str (ae_cons fe_str ae_nil)))))))))))
  (ses_cons (se_app 1 (by rfl) (vis_of (by rfl)) (fe_isE (c := .ty "ValueError") (cv := .type "ValueError") 0 hp C hz hf (by rfl) T.tb.n_isinstance rfl (vis_of (by rfl)) (L2.pe_bltn (v := .ty "ValueError") (by rfl) T.tb.n_ValueError (by decide +kernel) rfl) (fun u r => r) h_v))
  (ses_cons (se_iceT 1 (se_ret (me_of_fe (fe_join fe_str (we_of_me (me_lcX hot3 sc__law_error.nd (iex_zip (by rfl) T.tb.n_zip hot4 (fv 2) (fv 1)) (blkOk_by (own := [("word", 3), ("good", 4)]) (N := ["e", "classes", "words", "word", "good"]) (sc := defScope s__law_error) (by decide +kernel)) (fun _ _ _ _ _ => (gex_tup (ges_cons (gb 3 sc__law_error.nd) (ges_cons (gb 4 sc__law_error.nd) ges_nil)))) (fun _ _ _ _ _ => (ifs_one (be_val (fv 4)))) (fun _ _ _ _ _ => (fv 3))))))))
  ses_nil)))))) hg
theorem ok_tab {q : Ad} (T : To P K mg q) : ∀ C t, q.txt C = some t → FnE P w K mg base 1 T.f__law_error C t := fun C t h => by
  unfold Ad.txt at h
  split at h
  · rename_i e; subst e; cases h
    exact ok_err T T.x_eI T.u_eI_eI T.u_eI_eS T.u_eI_eT T.u_eI_eP T.u_eI_eL T.u_eI_eU T.v_eI (err_eI)
  split at h
  · rename_i e; subst e; cases h
    exact ok_err T T.x_eS T.u_eS_eI T.u_eS_eS T.u_eS_eT T.u_eS_eP T.u_eS_eL T.u_eS_eU T.v_eS (err_eS)
  split at h
  · rename_i e; subst e; cases h
    exact ok_err T T.x_eT T.u_eT_eI T.u_eT_eS T.u_eT_eT T.u_eT_eP T.u_eT_eL T.u_eT_eU T.v_eT (err_eT)
  split at h
  · rename_i e; subst e; cases h
    exact ok_err T T.x_eP T.u_eP_eI T.u_eP_eS T.u_eP_eT T.u_eP_eP T.u_eP_eL T.u_eP_eU T.v_eP (err_eP)
  split at h
  · rename_i e; subst e; cases h
    exact ok_err T T.x_eL T.u_eL_eI T.u_eL_eS T.u_eL_eT T.u_eL_eP T.u_eL_eL T.u_eL_eU T.v_eL (err_eL)
  split at h
  · rename_i e; subst e; cases h
    exact ok_err T T.x_eU T.u_eU_eI T.u_eU_eS T.u_eU_eT T.u_eU_eP T.u_eU_eL T.u_eU_eU T.v_eU (err_eU)
  cases h
theorem ok_exm {q : Ad} (T : To P K mg q) : ∀ C t, q.txt C = some t → PySem.W.exmOne K (.ref C) (.ref T.PE) = some true := fun C t h => by
  unfold Ad.txt at h
  split at h
  · rename_i e; subst e; cases h
    exact T.m_eI
  split at h
  · rename_i e; subst e; cases h
    exact T.m_eS
  split at h
  · rename_i e; subst e; cases h
    exact T.m_eT
  split at h
  · rename_i e; subst e; cases h
    exact T.m_eP
  split at h
  · rename_i e; subst e; cases h
    exact T.m_eL
  split at h
  · rename_i e; subst e; cases h
    exact T.m_eU
  cases h
abbrev lawX (P : Program) (w : World) (K : PySem.W.Frag) (mg : Str → Option Value) (base : Heap) (f c : Addr) (A : Around) (outer : List Env) (s : Shared) (H : Hp) (E : XK) : Cx := (cxOf (L2N.CX P w) P w K mg base ["script", "index", "digits", "made", "due", "k", "digit", "names", "some", "row", "j", "place", "good", "later", "told", "odd"] "law" (defScope s_law) f (.ref c) A outer s H E).nox
section
variable {f c P0 : Addr} {A : Around} {outer : List Env} {s : Shared} {H H0 : Hp} {E EX : XK} {q : Ad}
theorem toldL (T : To P K mg q) (TB : TabB base mg c P0) (hr : Room 8 (A.deeper (envOfC "law" (defScope s_law) s.heap.objs.size f (.ref c)))) {params : Arguments} {body : Expr} {scope : Scope} {p lpos pos : Pos} {fb : Rho → Option Eo} (L : LamS (defScope s_law) scope) (hdef : ∀ env, defaultsOf params env = ([], []))
    (hbind : ∀ (q : Str) (cl : List (Str × Addr)) (pm cv ctv : Value), bindArgs (PySem.W.kla_fn "<lambda>" q params body scope cl pm cv ctv) ⟨[], []⟩ = pure [])
    (hbody : ∀ (A1 : Around) (outer1 : List Env) (s1 : Shared) (H1 : Hp) (E1 : XK) (f1 c1 : Addr), Room 6 (A1.deeper (lamEnv (lawX P w K mg base f c A outer s H E) scope s1.heap.objs.size f1 c1)) → ZE (LamN.lamCx (lawX P w K mg base f c A outer s H E) A1 outer1 s1 H1 E1 scope f1 c1) [(P0, (lawX P w K mg base f c A outer s H E).env.qual ++ "<lambda>")] H0 E1 body fb) :
    ZE (lawX P w K mg base f c A outer s H E) [(P0, (lawX P w K mg base f c A outer s H E).env.qual ++ "<lambda>")] H0 EX (.Call (.Name "_law_told" p) [.Lambda params body scope lpos] [] pos) (zTold q.txt fb) := by
  obtain ⟨oc, od, kV, doc, pm, an, cdv, ct, osl, e, lk, hcd⟩ := T.i__law_told.ex
  have hb := T.b__law_told
  rw [e] at hb lk
  have hr1 : Room (6 + 2) (lawX P w K mg base f c A outer s H E).A := hr.mono (by decide)
  have hrg : Room (1 + 1) (lawX P w K mg base f c A outer s H E).A := hr1.mono (by decide)
  have G : LamN.GivesTo (lawX P w K mg base f c A outer s H E) ["call", "e"] "_law_told" (defScope s__law_told) T.f__law_told cdv (defBody s__law_told) "call" ((lawX P w K mg base f c A outer s H E).env.qual ++ "<lambda>") (TTold q.txt) :=
    told_givesN (fe := T.f__law_error) (CS := T.PE) (by rfl) T.gPE (by decide) (fun _ => rfl) (by decide) rfl (by rfl) (by rfl) T.g__law_error T.k__law_error (by decide) (by decide) (by decide) hrg (ok_tab T) (ok_exm T)
  have hmT : (P0, (lawX P w K mg base f c A outer s H E).env.qual ++ "<lambda>") ∈ [(P0, (lawX P w K mg base f c A outer s H E).env.qual ++ "<lambda>")] := List.mem_singleton.mpr rfl
  have hu : ∀ p ∈ [(P0, (lawX P w K mg base f c A outer s H E).env.qual ++ "<lambda>")], p.1 = P0 → p.2 = (lawX P w K mg base f c A outer s H E).env.qual ++ "<lambda>" := fun p hp _ => by rw [List.mem_singleton.mp hp]
  exact ze_told (X := lawX P w K mg base f c A outer s H E) (by rfl) T.g__law_told T.k__law_told lk hcd hb sc__law_told rfl (vis_of (by rfl)) G TB rfl hmT hu hr1 L (hdef _) hbind hbody
theorem ok_law (T : To P K mg q) (TB : TabB base mg c P0) (hr : Room 8 (A.deeper (envOfC "law" (defScope s_law) s.heap.objs.size f (.ref c)))) :
    SOs (lawX P w K mg base f c A outer s H E) [(P0, (lawX P w K mg base f c A outer s H E).env.qual ++ "<lambda>")] H0 C8.E0 (defBody s_law) (B_law q) :=
  have hu := room65 hr
  (sos_cons (so_for PassesOwn.never rfl (ie_range1 (by rfl) T.tb.n_range (ae_cons fe_int ae_nil)) (gn 1 sc_law.nd) (sos_cons (so_of fun H0 => (ss 2 sc_law.nd (me_of_fe (fe_of_me (me_call (ok__law_digits T.tb) (hr.mono (by decide : 2 ≤ 8)) (by rfl) T.tb.g__law_digits T.tb.F__law_digits.kp T.tb.b__law_digits (ae_cons (fv 0) (ae_cons (fv 1) (ae_cons fe_int (ae_cons fe_int ae_nil)))))))))
  (sos_cons (so_setM 3 sc_law.nd rfl (loc_of (by rfl)) (zm_if (be_cmp (c_eq hu) (we_of_fe (fe_mod (wv 1) (we_of_fe fe_int))) (we_of_fe fe_int) (nomark _)) (zm_makeK T.oR T.kR (ok_Draft___init___R T) (hr.mono (by decide : 6 ≤ 8)) passE0 (by rfl) T.gR (ae_cons (fe_tup (ae_cons fe_str ae_nil)) ae_nil) fe_int) (zm_makeK T.oD T.kD (ok_Document___init___D T) (hr.mono (by decide : 5 ≤ 8)) passE0 (by rfl) T.gD (ae_cons (fe_tup (ae_cons fe_str ae_nil)) ae_nil) fe_int)) (.inl rfl))
  (sos_cons (so_of fun H0 => (ss 4 sc_law.nd (me_of_fe (fe_tup (ae_cons (fe_tup (ae_cons fe_str ae_nil)) ae_nil)))))
  (sos_cons (so_for PassesOwn.never rfl (ie_range1 (by rfl) T.tb.n_range (ae_cons fe_int ae_nil)) (gn 5 sc_law.nd) (sos_cons (so_of fun H0 => (se_par2 6 7 rfl sc_law.nd rfl rfl (by decide) rfl rfl (me_of_fe (fe_idx (wv 2) (we_of_me (me_add (we_of_fe fe_int) (wv 5))))) (me_of_fe (fe_of_me (me_lst (ae_cons fe_str (ae_cons fe_str (ae_cons fe_str ae_nil)))))) (by rfl)))
  (sos_cons (so_of fun H0 => (ss 8 sc_law.nd (me_of_fe (fe_of_me (me_lst (ae_cons (fe_tup (ae_cons fe_str (ae_cons (fe_mod (wv 6) (we_of_fe fe_int)) ae_nil))) (ae_cons (fe_tup (ae_cons fe_str (ae_cons (fe_idx (wv 7) (we_of_fe (fe_mod (wv 6) (we_of_fe fe_int)))) ae_nil))) (ae_cons (fe_tup (ae_cons fe_str (ae_cons (fe_idx (wv 7) (we_of_fe (fe_mod (we_of_fe (fe_fdiv (wv 6) (we_of_fe fe_int))) (we_of_fe fe_int)))) ae_nil))) (ae_cons (fe_tup (ae_cons fe_str ae_nil)) ae_nil)))))))))
  (sos_cons (so_of fun H0 => (ss 9 sc_law.nd (me_of_fe (fe_tuple (by rfl) T.tb.n_tuple (we_of_me (me_lc rfl sc_law.nd (ie_range1 (by rfl) T.tb.n_range (ae_cons (fe_of_me (me_add (we_of_fe fe_int) (we_of_fe (fe_mod (wv 6) (we_of_fe fe_int))))) ae_nil)) (blkOk_by (own := [("j", 10)]) (N := ["script", "index", "digits", "made", "due", "k", "digit", "names", "some", "row", "j", "place", "good", "later", "told", "odd"]) (sc := defScope s_law) (by decide +kernel)) (fun _ _ _ _ _ => (gb 10 sc_law.nd)) (fun _ _ _ _ _ => ifs_nil) (fun _ _ _ _ _ => (fe_idx (wv 8) (we_of_fe (fe_mod (we_of_fe (fe_fdiv (we_of_fe (fe_idx (wv 2) (we_of_me (me_add (we_of_fe fe_int) (wv 5))))) (we_of_fe (fe_idx (we_of_me (me_lst (ae_cons fe_int (ae_cons fe_int (ae_cons fe_int ae_nil))))) (wv 10))))) (we_of_fe fe_int)))))))))))
  (sos_cons (so_of fun H0 => (ss 11 sc_law.nd (me_of_fe (fe_mod (we_of_fe (fe_idx (wv 2) (we_of_me (me_add (we_of_fe fe_int) (wv 5))))) (we_of_me (me_add (we_of_fe (fe_len (by rfl) T.tb.n_len (wv 4))) (we_of_fe fe_int)))))))
  (sos_cons (so_of fun H0 => (se_if (be_cmp (c_eq hu) (we_of_fe (fe_mod (we_of_fe (fe_idx (wv 2) (we_of_me (me_add (we_of_fe fe_int) (wv 5))))) (we_of_fe fe_int))) (we_of_fe fe_int) (nomark _)) (ses_cons (ss 11 sc_law.nd (me_of_fe (fe_idx (we_of_me (me_lst (ae_cons (fe_sub (we_of_fe fe_int) (we_of_fe fe_int)) (ae_cons (fe_of_me (me_add (we_of_fe (fe_len (by rfl) T.tb.n_len (wv 4))) (we_of_fe fe_int))) (ae_cons fe_non (ae_cons fe_bl (ae_cons fe_str ae_nil))))))) (we_of_fe (fe_mod (wv 6) (we_of_fe fe_int))))))
  ses_nil) ses_nil))
  (sos_cons (so_of fun H0 => (ss 12 sc_law.nd (me_of_fe (fe_of_me (me_call (ok__law_is_integer T.tb) (hr.mono (by decide : 1 ≤ 8)) (by rfl) T.tb.g__law_is_integer T.tb.F__law_is_integer.kp T.tb.b__law_is_integer (ae_cons (fv 11) (ae_cons fe_int (ae_cons (fe_len (by rfl) T.tb.n_len (wv 4)) ae_nil))))))))
  (sos_cons (so_if (be_cmp c_lt (we_of_fe (fe_mod (we_of_fe (fe_fdiv (we_of_fe (fe_idx (wv 2) (we_of_me (me_add (we_of_fe fe_int) (wv 5))))) (we_of_fe fe_int))) (we_of_fe fe_int))) (we_of_fe fe_int) (nomark _)) (sos_cons (so_of fun H0 => (ss 13 sc_law.nd (me_of_fe (fe_if (be_val (fv 12)) (fe_of_me (me_add (we_of_me (me_add (we_of_me (me_sl (wv 4) oe_none (oe_some (wv 11)))) (wv 9))) (we_of_me (me_sl (wv 4) (oe_some (wv 11)) oe_none)))) (fv 4)))))
  (sos_cons (so_of fun H0 => (ss 14 sc_law.nd (me_of_fe (fe_if (be_not (be_val (fv 12))) fe_str (fe_if (be_val (fe_of_me (me_call (ok__law_valid T.tb) (hr.mono (by decide : 1 ≤ 8)) (by rfl) T.tb.g__law_valid T.tb.F__law_valid.kp T.tb.b__law_valid (ae_cons (fv 13) ae_nil)))) fe_str fe_str)))))
  (sos_cons (so_ifZ (zt_cmp (c_ne hu) (toldL T TB hr (lamS_by (by decide +kernel)) (fun _ => rfl) (fun _ _ _ _ _ => rfl) (fun A outer s H E f c2 hr => have hu := room65 hr
    (ze_else (ze_callO 3 rfl (vis_of (by rfl)) (ok__law_put_R T) (hr.mono (by decide : 6 ≤ 6)) (L2N.passes_call (L2N.takes_of rfl rfl rfl rfl) (fun _ _ _ _ h => h)) (by rfl) T.g__law_put T.k__law_put T.b__law_put (ae_cons (fv 11) (ae_cons (fv 9) ae_nil))) (ze_callO 3 rfl (vis_of (by rfl)) (ok__law_put_D T) (hr.mono (by decide : 5 ≤ 6)) (L2N.passes_call (L2N.takes_of rfl rfl rfl rfl) (fun _ _ _ _ h => h)) (by rfl) T.g__law_put T.k__law_put T.b__law_put (ae_cons (fv 11) (ae_cons (fv 9) ae_nil)))))) (we_of_fe (fe_tup (ae_cons fe_non (ae_cons (fv 14) ae_nil)))) (nomark _)) (sos_cons (so_of fun H0 => (se_ret (me_of_fe fe_bl)))
  sos_nil) sos_nil)
  sos_nil))) (sos_cons (so_of fun H0 => (ss 12 sc_law.nd (me_of_fe (fe_and (fv 12) (fe_one (fe_cmp c_lt (wv 11) (we_of_fe (fe_len (by rfl) T.tb.n_len (wv 4))) (nomark _)))))))
  (sos_cons (so_of fun H0 => (ss 13 sc_law.nd (me_of_fe (fe_if (be_val (fv 12)) (fe_of_me (me_add (we_of_me (me_sl (wv 4) oe_none (oe_some (wv 11)))) (we_of_me (me_sl (wv 4) (oe_some (we_of_me (me_add (wv 11) (we_of_fe fe_int)))) oe_none)))) (fv 4)))))
  (sos_cons (so_of fun H0 => (ss 14 sc_law.nd (me_of_fe (fe_if (be_not (be_val (fv 12))) fe_str (fe_if (be_val (fe_of_me (me_call (ok__law_valid T.tb) (hr.mono (by decide : 1 ≤ 8)) (by rfl) T.tb.g__law_valid T.tb.F__law_valid.kp T.tb.b__law_valid (ae_cons (fv 13) ae_nil)))) fe_str fe_str)))))
  (sos_cons (so_ifZ (zt_cmp (c_ne hu) (toldL T TB hr (lamS_by (by decide +kernel)) (fun _ => rfl) (fun _ _ _ _ _ => rfl) (fun A outer s H E f c2 hr => have hu := room65 hr
    (ze_else (ze_meth 3 rfl (vis_of (by rfl)) T.oR.cls T.m_Document_remove_R (fnr_of (ok_Document_remove_R T) T.b_Document_remove_R) (hr.mono (by decide : 5 ≤ 6)) (L2N.passes_call (L2N.takes_of rfl rfl rfl rfl) (fun _ _ _ _ h => h)) (ae_cons (fv 11) ae_nil)) (ze_meth 3 rfl (vis_of (by rfl)) T.oD.cls T.m_Document_remove_D (fnr_of (ok_Document_remove_D T) T.b_Document_remove_D) (hr.mono (by decide : 4 ≤ 6)) (L2N.passes_call (L2N.takes_of rfl rfl rfl rfl) (fun _ _ _ _ h => h)) (ae_cons (fv 11) ae_nil))))) (we_of_fe (fe_tup (ae_cons (fe_if (be_cmp (c_eq hu) (wv 14) (we_of_fe fe_str) (nomark _)) (fe_idx (wv 4) (wv 11)) fe_non) (ae_cons (fv 14) ae_nil)))) (nomark _)) (sos_cons (so_of fun H0 => (se_ret (me_of_fe fe_bl)))
  sos_nil) sos_nil)
  sos_nil)))))
  (sos_cons (so_of fun H0 => (ss 4 sc_law.nd (me_of_fe (fe_if (be_cmp (c_eq hu) (wv 14) (we_of_fe fe_str) (nomark _)) (fv 13) (fv 4)))))
  (sos_cons (so_of fun H0 => (se_if (be_w (bw_or (be_cmp (c_ne hu) (we_of_fe (fe_else (fe_prop (wv 3) T.oR.cls T.p_Document_content_R (ok_Document_content_R T) (hr.mono (by decide : 2 ≤ 8)) T.b_Document_content_R passE0) (fe_prop (wv 3) T.oD.cls T.p_Document_content_D (ok_Document_content_D T) (hr.mono (by decide : 2 ≤ 8)) T.b_Document_content_D passE0))) (wv 4) (nomark _)) (bw_or1 (be_cmp (c_ne hu) (we_of_fe (fe_else (fe_lenO (by rfl) T.tb.n_len (wv 3) T.m_Document___len___R.at_ T.m_Document___len___R.fn (fnr_of (ok_Document___len___R T) T.b_Document___len___R) (hr.mono (by decide : 2 ≤ 8)) passE0) (fe_lenO (by rfl) T.tb.n_len (wv 3) T.m_Document___len___D.at_ T.m_Document___len___D.fn (fnr_of (ok_Document___len___D T) T.b_Document___len___D) (hr.mono (by decide : 2 ≤ 8)) passE0))) (we_of_fe (fe_len (by rfl) T.tb.n_len (wv 4))) (nomark _))))) (ses_cons (se_ret (me_of_fe fe_bl))
  ses_nil) ses_nil))
  sos_nil))))))))))
  (sos_cons (so_of fun H0 => (ss 15 sc_law.nd (me_of_fe (fe_idx (we_of_me (me_lst (ae_cons fe_non (ae_cons fe_int (ae_cons fe_str (ae_cons (fe_tup (ae_cons fe_str (ae_cons (fe_sub (we_of_fe fe_int) (we_of_fe fe_int)) ae_nil))) (ae_cons (fe_tup (ae_cons fe_str (ae_cons fe_str ae_nil))) (ae_cons (fe_of_me (me_lst (ae_cons fe_str ae_nil))) (ae_cons (fe_tup ae_nil) ae_nil))))))))) (we_of_fe (fe_mod (we_of_fe (fe_idx (wv 2) (we_of_fe fe_int))) (we_of_fe fe_int)))))))
  (sos_cons (so_ifZ (zt_w (zw_or (zt_cmp (c_ne hu) (toldL T TB hr (lamS_by (by decide +kernel)) (fun _ => rfl) (fun _ _ _ _ _ => rfl) (fun A outer s H E f c2 hr => have hu := room65 hr
    (ze_else (ze_methS 3 rfl (vis_of (by rfl)) T.oR.cls T.m_Document_insert_R (ok_Document_insert_R T) (hr.mono (by decide : 5 ≤ 6)) (L2N.passes_call (L2N.takes_of rfl rfl rfl rfl) (fun _ _ _ _ h => h)) (ae_cons fe_int (ae_cons (fe_tup (ae_cons fe_str ae_nil)) (ae_cons (fv 15) ae_nil)))) (ze_methS 3 rfl (vis_of (by rfl)) T.oD.cls T.m_Document_insert_D (ok_Document_insert_D T) (hr.mono (by decide : 4 ≤ 6)) (L2N.passes_call (L2N.takes_of rfl rfl rfl rfl) (fun _ _ _ _ h => h)) (ae_cons fe_int (ae_cons (fe_tup (ae_cons fe_str ae_nil)) (ae_cons (fv 15) ae_nil))))))) (we_of_fe (fe_tup (ae_cons fe_non (ae_cons fe_str ae_nil)))) (nomark _)) (zw_or1 (zt_of (be_cmp (c_ne hu) (we_of_fe (fe_else (fe_prop (wv 3) T.oR.cls T.p_Document_content_R (ok_Document_content_R T) (hr.mono (by decide : 2 ≤ 8)) T.b_Document_content_R passE0) (fe_prop (wv 3) T.oD.cls T.p_Document_content_D (ok_Document_content_D T) (hr.mono (by decide : 2 ≤ 8)) T.b_Document_content_D passE0))) (wv 4) (nomark _)))))) (sos_cons (so_of fun H0 => (se_ret (me_of_fe fe_bl)))
  sos_nil) sos_nil)
  (sos_cons (so_ifZ (zt_w (zw_or (zt_cmp c_isnot (ze_else (ze_methS 3 rfl (vis_of (by rfl)) T.oR.cls T.m_Document_insert_R (ok_Document_insert_R T) (hr.mono (by decide : 5 ≤ 8)) passE0 (ae_cons fe_int ae_nil)) (ze_methS 3 rfl (vis_of (by rfl)) T.oD.cls T.m_Document_insert_D (ok_Document_insert_D T) (hr.mono (by decide : 4 ≤ 8)) passE0 (ae_cons fe_int ae_nil))) (we_of_fe fe_non) (nomark _)) (zw_or1 (zt_of (be_cmp (c_ne hu) (we_of_fe (fe_else (fe_prop (wv 3) T.oR.cls T.p_Document_content_R (ok_Document_content_R T) (hr.mono (by decide : 2 ≤ 8)) T.b_Document_content_R passE0) (fe_prop (wv 3) T.oD.cls T.p_Document_content_D (ok_Document_content_D T) (hr.mono (by decide : 2 ≤ 8)) T.b_Document_content_D passE0))) (wv 4) (nomark _)))))) (sos_cons (so_of fun H0 => (se_ret (me_of_fe fe_bl)))
  sos_nil) sos_nil)
  sos_nil))))))))
  (sos_cons (so_of fun H0 => (se_ret (me_of_fe fe_bl)))
  sos_nil))
end
section
variable {P : Program} {w : World} {K : PySem.W.Frag} {mg : Str → Option Value} {h : Heap}
variable {cD cR ceI ceS ceT ceP ceL ceU PE fa ca P0 a_is_integer a_is_name a_mark_names a__law_cell a__law_is_integer a__law_valid a_is_item a__law_digits a_is_document pa_Document_names_R pa_Document_content_R pa_Document_content_D f_Document___init__ D0_Document___init__ f_Document_names f_Draft___init__ cda_Draft___init__ cc_Draft___init__ D0_Draft___init__ f_Document_change f_Draft_change cda_Draft_change cc_Draft_change f_Document_insert f__law_put f_Document_remove f_Document___len__ f_Document_content f__law_error f__law_told : Addr}
variable {oc_is_integer kV_is_integer dc_is_integer pm_is_integer cd_is_integer ct_is_integer oc_is_name kV_is_name dc_is_name pm_is_name cd_is_name ct_is_name oc_mark_names kV_mark_names dc_mark_names pm_mark_names cd_mark_names ct_mark_names oc__law_cell kV__law_cell dc__law_cell pm__law_cell cd__law_cell ct__law_cell oc__law_is_integer kV__law_is_integer dc__law_is_integer pm__law_is_integer cd__law_is_integer ct__law_is_integer oc__law_valid kV__law_valid dc__law_valid pm__law_valid cd__law_valid ct__law_valid oc_is_item kV_is_item dc_is_item pm_is_item cd_is_item ct_is_item oc__law_digits kV__law_digits dc__law_digits pm__law_digits cd__law_digits ct__law_digits oc_is_document kV_is_document dc_is_document pm_is_document cd_is_document ct_is_document oc_Document___init__ dc_Document___init__ pm_Document___init__ cd_Document___init__ ct_Document___init__ oc_Document_names kV_Document_names dc_Document_names pm_Document_names cd_Document_names ct_Document_names oc_Draft___init__ dc_Draft___init__ pm_Draft___init__ ct_Draft___init__ ccl_Draft___init__ kcl_Draft___init__ oc_Document_change kV_Document_change dc_Document_change pm_Document_change cd_Document_change ct_Document_change oc_Draft_change dc_Draft_change pm_Draft_change ct_Draft_change ccl_Draft_change kcl_Draft_change kV_Draft_change oc_Document_insert kV_Document_insert dc_Document_insert pm_Document_insert cd_Document_insert ct_Document_insert oc__law_put kV__law_put dc__law_put pm__law_put cd__law_put ct__law_put oc_Document_remove kV_Document_remove dc_Document_remove pm_Document_remove cd_Document_remove ct_Document_remove oc_Document___len__ kV_Document___len__ dc_Document___len__ pm_Document___len__ cd_Document___len__ ct_Document___len__ oc_Document_content kV_Document_content dc_Document_content pm_Document_content cd_Document_content ct_Document_content oc__law_error kV__law_error dc__law_error pm__law_error cd__law_error ct__law_error oc__law_told kV__law_told dc__law_told pm__law_told cd__law_told ct__law_told ocL kVL dcL pmL ctL eL : Value}
variable {od_is_integer an_is_integer od_is_name an_is_name od_mark_names an_mark_names od__law_cell an__law_cell od__law_is_integer an__law_is_integer od__law_valid an__law_valid od_is_item an_is_item od__law_digits an__law_digits od_is_document an_is_document od_Document___init__ an_Document___init__ od_Document_names an_Document_names od_Draft___init__ an_Draft___init__ cod_Draft___init__ kod_Draft___init__ od_Document_change an_Document_change od_Draft_change an_Draft_change cod_Draft_change kod_Draft_change od_Document_insert an_Document_insert od__law_put an__law_put od_Document_remove an_Document_remove od_Document___len__ an_Document___len__ od_Document_content an_Document_content od__law_error an__law_error od__law_told an__law_told odL anL ddL : Option Addr}
variable {sl_is_integer sl_is_name sl_mark_names sl__law_cell sl__law_is_integer sl__law_valid sl_is_item sl__law_digits sl_is_document sl_Document___init__ sl_Document_names sl_Draft___init__ csl_Draft___init__ ksl_Draft___init__ sl_Document_change sl_Draft_change csl_Draft_change ksl_Draft_change sl_Document_insert sl__law_put sl_Document_remove sl_Document___len__ sl_Document_content sl__law_error sl__law_told slL slC : Array (Option Value)}
variable {t_LETTERS t0_Document___init__ tf_Draft___init__ t0_Draft___init__ tf_Draft_change : Tok}
variable {pr_Document_names_R pr_Document_content_R pr_Document_content_D : List Value}
variable {vs_Draft___init__ vs_Draft_change vsL : Array Value}
variable {fl_Draft___init__ fl_Draft_change : Str}
theorem all_mk {l : PySem.W.OpenLaw} (hP : l.prog = P) (X : K.In h) (G : h.Ns mainGlobals mg) {f0 : Addr} (hfa : mg "law" = some (.ref f0)) (own : LamX.OwnTab K f0 h)
    (ga_Document : PySem.W.nsIn K mainGlobals "Document" = some (some (.ref cD)))
    (ga_Draft : PySem.W.nsIn K mainGlobals "Draft" = some (some (.ref cR)))
    (ga_InvalidItems : PySem.W.nsIn K mainGlobals "InvalidItems" = some (some (.ref ceI)))
    (ga_InvalidSize : PySem.W.nsIn K mainGlobals "InvalidSize" = some (some (.ref ceS)))
    (ga_InvalidText : PySem.W.nsIn K mainGlobals "InvalidText" = some (some (.ref ceT)))
    (ga_InvalidPlace : PySem.W.nsIn K mainGlobals "InvalidPlace" = some (some (.ref ceP)))
    (ga_InvalidLimit : PySem.W.nsIn K mainGlobals "InvalidLimit" = some (some (.ref ceL)))
    (ga_UnknownMark : PySem.W.nsIn K mainGlobals "UnknownMark" = some (some (.ref ceU)))
    (ga_PageError : PySem.W.nsIn K mainGlobals "PageError" = some (some (.ref PE)))
    (ga_is_integer : PySem.W.nsIn K mainGlobals "is_integer" = some (some (.ref a_is_integer)))
    (l_is_integer : K.lookup a_is_integer = some ⟨oc_is_integer, od_is_integer, .func (PySem.W.fnOf "is_integer" "is_integer" (defArgs s_is_integer) (defBody s_is_integer) (defScope s_is_integer) .none kV_is_integer dc_is_integer pm_is_integer an_is_integer cd_is_integer ct_is_integer), sl_is_integer⟩)
    (c_is_integer : PySem.W.codeIn K cd_is_integer "is_integer" = true)
    (k_is_integer : PySem.W.keepIn K (.ref a_is_integer) = true)
    (ga_is_name : PySem.W.nsIn K mainGlobals "is_name" = some (some (.ref a_is_name)))
    (l_is_name : K.lookup a_is_name = some ⟨oc_is_name, od_is_name, .func (PySem.W.fnOf "is_name" "is_name" (defArgs s_is_name) (defBody s_is_name) (defScope s_is_name) .none kV_is_name dc_is_name pm_is_name an_is_name cd_is_name ct_is_name), sl_is_name⟩)
    (c_is_name : PySem.W.codeIn K cd_is_name "is_name" = true)
    (k_is_name : PySem.W.keepIn K (.ref a_is_name) = true)
    (ga_mark_names : PySem.W.nsIn K mainGlobals "mark_names" = some (some (.ref a_mark_names)))
    (l_mark_names : K.lookup a_mark_names = some ⟨oc_mark_names, od_mark_names, .func (PySem.W.fnOf "mark_names" "mark_names" (defArgs s_mark_names) (defBody s_mark_names) (defScope s_mark_names) .none kV_mark_names dc_mark_names pm_mark_names an_mark_names cd_mark_names ct_mark_names), sl_mark_names⟩)
    (c_mark_names : PySem.W.codeIn K cd_mark_names "mark_names" = true)
    (k_mark_names : PySem.W.keepIn K (.ref a_mark_names) = true)
    (ga__law_cell : PySem.W.nsIn K mainGlobals "_law_cell" = some (some (.ref a__law_cell)))
    (l__law_cell : K.lookup a__law_cell = some ⟨oc__law_cell, od__law_cell, .func (PySem.W.fnOf "_law_cell" "_law_cell" (defArgs s__law_cell) (defBody s__law_cell) (defScope s__law_cell) .none kV__law_cell dc__law_cell pm__law_cell an__law_cell cd__law_cell ct__law_cell), sl__law_cell⟩)
    (c__law_cell : PySem.W.codeIn K cd__law_cell "_law_cell" = true)
    (k__law_cell : PySem.W.keepIn K (.ref a__law_cell) = true)
    (ga__law_is_integer : PySem.W.nsIn K mainGlobals "_law_is_integer" = some (some (.ref a__law_is_integer)))
    (l__law_is_integer : K.lookup a__law_is_integer = some ⟨oc__law_is_integer, od__law_is_integer, .func (PySem.W.fnOf "_law_is_integer" "_law_is_integer" (defArgs s__law_is_integer) (defBody s__law_is_integer) (defScope s__law_is_integer) .none kV__law_is_integer dc__law_is_integer pm__law_is_integer an__law_is_integer cd__law_is_integer ct__law_is_integer), sl__law_is_integer⟩)
    (c__law_is_integer : PySem.W.codeIn K cd__law_is_integer "_law_is_integer" = true)
    (k__law_is_integer : PySem.W.keepIn K (.ref a__law_is_integer) = true)
    (ga__law_valid : PySem.W.nsIn K mainGlobals "_law_valid" = some (some (.ref a__law_valid)))
    (l__law_valid : K.lookup a__law_valid = some ⟨oc__law_valid, od__law_valid, .func (PySem.W.fnOf "_law_valid" "_law_valid" (defArgs s__law_valid) (defBody s__law_valid) (defScope s__law_valid) .none kV__law_valid dc__law_valid pm__law_valid an__law_valid cd__law_valid ct__law_valid), sl__law_valid⟩)
    (c__law_valid : PySem.W.codeIn K cd__law_valid "_law_valid" = true)
    (k__law_valid : PySem.W.keepIn K (.ref a__law_valid) = true)
    (ga_is_item : PySem.W.nsIn K mainGlobals "is_item" = some (some (.ref a_is_item)))
    (l_is_item : K.lookup a_is_item = some ⟨oc_is_item, od_is_item, .func (PySem.W.fnOf "is_item" "is_item" (defArgs s_is_item) (defBody s_is_item) (defScope s_is_item) .none kV_is_item dc_is_item pm_is_item an_is_item cd_is_item ct_is_item), sl_is_item⟩)
    (c_is_item : PySem.W.codeIn K cd_is_item "is_item" = true)
    (k_is_item : PySem.W.keepIn K (.ref a_is_item) = true)
    (ga__law_digits : PySem.W.nsIn K mainGlobals "_law_digits" = some (some (.ref a__law_digits)))
    (l__law_digits : K.lookup a__law_digits = some ⟨oc__law_digits, od__law_digits, .func (PySem.W.fnOf "_law_digits" "_law_digits" (defArgs s__law_digits) (defBody s__law_digits) (defScope s__law_digits) .none kV__law_digits dc__law_digits pm__law_digits an__law_digits cd__law_digits ct__law_digits), sl__law_digits⟩)
    (c__law_digits : PySem.W.codeIn K cd__law_digits "_law_digits" = true)
    (k__law_digits : PySem.W.keepIn K (.ref a__law_digits) = true)
    (ga_is_document : PySem.W.nsIn K mainGlobals "is_document" = some (some (.ref a_is_document)))
    (l_is_document : K.lookup a_is_document = some ⟨oc_is_document, od_is_document, .func (PySem.W.fnOf "is_document" "is_document" (defArgs s_is_document) (defBody s_is_document) (defScope s_is_document) .none kV_is_document dc_is_document pm_is_document an_is_document cd_is_document ct_is_document), sl_is_document⟩)
    (c_is_document : PySem.W.codeIn K cd_is_document "is_document" = true)
    (k_is_document : PySem.W.keepIn K (.ref a_is_document) = true)
    (z_ValueError : PySem.W.nsIn K mainGlobals "ValueError" = some none)
    (z_all : PySem.W.nsIn K mainGlobals "all" = some none)
    (z_bool : PySem.W.nsIn K mainGlobals "bool" = some none)
    (z_int : PySem.W.nsIn K mainGlobals "int" = some none)
    (z_isinstance : PySem.W.nsIn K mainGlobals "isinstance" = some none)
    (z_len : PySem.W.nsIn K mainGlobals "len" = some none)
    (z_range : PySem.W.nsIn K mainGlobals "range" = some none)
    (z_set : PySem.W.nsIn K mainGlobals "set" = some none)
    (z_sorted : PySem.W.nsIn K mainGlobals "sorted" = some none)
    (z_str : PySem.W.nsIn K mainGlobals "str" = some none)
    (z_tuple : PySem.W.nsIn K mainGlobals "tuple" = some none)
    (z_zip : PySem.W.nsIn K mainGlobals "zip" = some none)
    (y_LETTERS : PySem.W.nsIn K mainGlobals "LETTERS" = some (some (.str "abcdefghijklmnopqrstuvwxyz" t_LETTERS)))
    (o1_D : PySem.W.plainGet K cD Str.empty = true)
    (o2_D : PySem.W.hasDictIn K cD = true)
    (o3_D : PySem.W.plainOver K cD = true)
    (o4_D : PySem.W.findIn K (.ref cD) "__setattr__" = some (some (.builtin "object.__setattr__")))
    (n0_D : PySem.W.findIn K (.ref cD) "row" = some none)
    (n1_D : PySem.W.findIn K (.ref cD) "room" = some none)
    (n2_D : PySem.W.findIn K (.ref cD) "known" = some none)
    (o1_R : PySem.W.plainGet K cR Str.empty = true)
    (o2_R : PySem.W.hasDictIn K cR = true)
    (o3_R : PySem.W.plainOver K cR = true)
    (o4_R : PySem.W.findIn K (.ref cR) "__setattr__" = some (some (.builtin "object.__setattr__")))
    (n0_R : PySem.W.findIn K (.ref cR) "row" = some none)
    (n1_R : PySem.W.findIn K (.ref cR) "room" = some none)
    (n2_R : PySem.W.findIn K (.ref cR) "known" = some none)
    (mroR : PySem.W.mroIn K cR (.ref cR) = some true)
    (isR : PySem.W.isClsIn K cR = true)
    (z_super : PySem.W.nsIn K mainGlobals "super" = some none)
    (top_ : (P.main.scope.names.lookup ("super" : Str)).isSome = false)
    (e1_eI : PySem.W.excIn K ceI [.type "ValueError", .type "Exception", .type "BaseException", .type "object"] "ValueError.__new__" = true)
    (e2_eI : PySem.W.keepIn K (.ref ceI) = true)
    (e3_eI : PySem.W.subIn K (.ref ceI) (.type "BaseException") = some true)
    (e4_eI : PySem.W.typeIn K (.ref ceI) = some (.type "type"))
    (e1_eS : PySem.W.excIn K ceS [.type "ValueError", .type "Exception", .type "BaseException", .type "object"] "ValueError.__new__" = true)
    (e2_eS : PySem.W.keepIn K (.ref ceS) = true)
    (e3_eS : PySem.W.subIn K (.ref ceS) (.type "BaseException") = some true)
    (e4_eS : PySem.W.typeIn K (.ref ceS) = some (.type "type"))
    (e1_eT : PySem.W.excIn K ceT [.type "ValueError", .type "Exception", .type "BaseException", .type "object"] "ValueError.__new__" = true)
    (e2_eT : PySem.W.keepIn K (.ref ceT) = true)
    (e3_eT : PySem.W.subIn K (.ref ceT) (.type "BaseException") = some true)
    (e4_eT : PySem.W.typeIn K (.ref ceT) = some (.type "type"))
    (e1_eP : PySem.W.excIn K ceP [.type "ValueError", .type "Exception", .type "BaseException", .type "object"] "ValueError.__new__" = true)
    (e2_eP : PySem.W.keepIn K (.ref ceP) = true)
    (e3_eP : PySem.W.subIn K (.ref ceP) (.type "BaseException") = some true)
    (e4_eP : PySem.W.typeIn K (.ref ceP) = some (.type "type"))
    (e1_eL : PySem.W.excIn K ceL [.type "ValueError", .type "Exception", .type "BaseException", .type "object"] "ValueError.__new__" = true)
    (e2_eL : PySem.W.keepIn K (.ref ceL) = true)
    (e3_eL : PySem.W.subIn K (.ref ceL) (.type "BaseException") = some true)
    (e4_eL : PySem.W.typeIn K (.ref ceL) = some (.type "type"))
    (e1_eU : PySem.W.excIn K ceU [.type "ValueError", .type "Exception", .type "BaseException", .type "object"] "ValueError.__new__" = true)
    (e2_eU : PySem.W.keepIn K (.ref ceU) = true)
    (e3_eU : PySem.W.subIn K (.ref ceU) (.type "BaseException") = some true)
    (e4_eU : PySem.W.typeIn K (.ref ceU) = some (.type "type"))
    (s1_Document___init___R : PySem.W.ks_superIn K cR cR "__init__" = some (some (.ref f_Document___init__)))
    (s2_Document___init___R : PySem.W.typeIn K (.ref f_Document___init__) = some (.type "function"))
    (s3_Document___init___R : PySem.W.fnIn K f_Document___init__ = true)
    (s4_ : PySem.W.nsIn K cStatics "thirdparty.any" = some none)
    (p1_Document_names_R : PySem.W.findIn K (.ref cR) "names" = some (some (.ref pa_Document_names_R)))
    (p2_Document_names_R : PySem.W.specialIn K (.ref pa_Document_names_R) "__get__" = some (some (.builtin "property.__get__")))
    (p3_Document_names_R : PySem.W.takesIn K (.ref pa_Document_names_R) = some true)
    (p4_Document_names_R : PySem.W.recIn K pa_Document_names_R "property" = some (.ref f_Document_names :: pr_Document_names_R))
    (mk1_R : PySem.W.makesIn K cR = true)
    (mk2_R : PySem.W.findIn K (.ref cR) "__init__" = some (some (.ref f_Draft___init__)))
    (mk3_R : PySem.W.isFn K (.ref f_Draft___init__) = true)
    (mk4_R : PySem.W.keepIn K (.ref cR) = true)
    (mk1_D : PySem.W.makesIn K cD = true)
    (mk2_D : PySem.W.findIn K (.ref cD) "__init__" = some (some (.ref f_Document___init__)))
    (mk3_D : PySem.W.isFn K (.ref f_Document___init__) = true)
    (mk4_D : PySem.W.keepIn K (.ref cD) = true)
    (s1_Document_change_R : PySem.W.ks_superIn K cR cR "change" = some (some (.ref f_Document_change)))
    (s2_Document_change_R : PySem.W.typeIn K (.ref f_Document_change) = some (.type "function"))
    (s3_Document_change_R : PySem.W.fnIn K f_Document_change = true)
    (m1_Draft_change_R : PySem.W.findIn K (.ref cR) "change" = some (some (.ref f_Draft_change)))
    (m2_Draft_change_R : PySem.W.isFn K (.ref f_Draft_change) = true)
    (m3_Draft_change_R : PySem.W.keepIn K (.ref f_Draft_change) = true)
    (m1_Document_insert_R : PySem.W.findIn K (.ref cR) "insert" = some (some (.ref f_Document_insert)))
    (m2_Document_insert_R : PySem.W.isFn K (.ref f_Document_insert) = true)
    (m3_Document_insert_R : PySem.W.keepIn K (.ref f_Document_insert) = true)
    (ga__law_put : PySem.W.nsIn K mainGlobals "_law_put" = some (some (.ref f__law_put)))
    (m1_Document_change_D : PySem.W.findIn K (.ref cD) "change" = some (some (.ref f_Document_change)))
    (m2_Document_change_D : PySem.W.isFn K (.ref f_Document_change) = true)
    (m3_Document_change_D : PySem.W.keepIn K (.ref f_Document_change) = true)
    (m1_Document_insert_D : PySem.W.findIn K (.ref cD) "insert" = some (some (.ref f_Document_insert)))
    (m2_Document_insert_D : PySem.W.isFn K (.ref f_Document_insert) = true)
    (m3_Document_insert_D : PySem.W.keepIn K (.ref f_Document_insert) = true)
    (m1_Document_remove_R : PySem.W.findIn K (.ref cR) "remove" = some (some (.ref f_Document_remove)))
    (m2_Document_remove_R : PySem.W.isFn K (.ref f_Document_remove) = true)
    (m3_Document_remove_R : PySem.W.keepIn K (.ref f_Document_remove) = true)
    (m1_Document_remove_D : PySem.W.findIn K (.ref cD) "remove" = some (some (.ref f_Document_remove)))
    (m2_Document_remove_D : PySem.W.isFn K (.ref f_Document_remove) = true)
    (m3_Document_remove_D : PySem.W.keepIn K (.ref f_Document_remove) = true)
    (m1_Document___len___R : PySem.W.findIn K (.ref cR) "__len__" = some (some (.ref f_Document___len__)))
    (m2_Document___len___R : PySem.W.isFn K (.ref f_Document___len__) = true)
    (m3_Document___len___R : PySem.W.keepIn K (.ref f_Document___len__) = true)
    (m1_Document___len___D : PySem.W.findIn K (.ref cD) "__len__" = some (some (.ref f_Document___len__)))
    (m2_Document___len___D : PySem.W.isFn K (.ref f_Document___len__) = true)
    (m3_Document___len___D : PySem.W.keepIn K (.ref f_Document___len__) = true)
    (p1_Document_content_R : PySem.W.findIn K (.ref cR) "content" = some (some (.ref pa_Document_content_R)))
    (p2_Document_content_R : PySem.W.specialIn K (.ref pa_Document_content_R) "__get__" = some (some (.builtin "property.__get__")))
    (p3_Document_content_R : PySem.W.takesIn K (.ref pa_Document_content_R) = some true)
    (p4_Document_content_R : PySem.W.recIn K pa_Document_content_R "property" = some (.ref f_Document_content :: pr_Document_content_R))
    (p1_Document_content_D : PySem.W.findIn K (.ref cD) "content" = some (some (.ref pa_Document_content_D)))
    (p2_Document_content_D : PySem.W.specialIn K (.ref pa_Document_content_D) "__get__" = some (some (.builtin "property.__get__")))
    (p3_Document_content_D : PySem.W.takesIn K (.ref pa_Document_content_D) = some true)
    (p4_Document_content_D : PySem.W.recIn K pa_Document_content_D "property" = some (.ref f_Document_content :: pr_Document_content_D))
    (ga__law_error : PySem.W.nsIn K mainGlobals "_law_error" = some (some (.ref f__law_error)))
    (ga__law_told : PySem.W.nsIn K mainGlobals "_law_told" = some (some (.ref f__law_told)))
    (x0_eI : PySem.W.findIn K (.ref ceI) "__getattribute__" = some (some (.builtin "BaseException.__getattribute__")))
    (x1_eI : PySem.W.findIn K (.ref ceI) "__getattr__" = some none)
    (x3_eI : PySem.W.hasDictIn K ceI = true)
    (x4_eI : PySem.W.findIn K (.ref ceI) "__class__" = some (some (.builtin "object.__class__")))
    (x7_eI : PySem.W.mroIn K ceI (.type "object") = some true)
    (x5_ : PySem.W.specialIn K (.builtin "object.__class__") "__get__" = some (some (.builtin "getset_descriptor.__get__")))
    (x6_ : PySem.W.takesIn K (.builtin "object.__class__") = some true)
    (pe1 : PySem.W.subIn K (.ref PE) (.type "BaseException") = some true)
    (pe2 : PySem.W.hasDictIn K PE = true)
    (pe3 : PySem.W.typeIn K (.ref PE) = some (.type "type"))
    (pe_eI : PySem.W.subIn K (.ref ceI) (.ref PE) = some true)
    (kv_eI : PySem.W.kitOne K (.ref ceI) (.type "ValueError") = some true)
    (ku_eI_eI : PySem.W.kitOne K (.ref ceI) (.ref ceI) = some true)
    (ku_eI_eS : PySem.W.kitOne K (.ref ceI) (.ref ceS) = some false)
    (ku_eI_eT : PySem.W.kitOne K (.ref ceI) (.ref ceT) = some false)
    (ku_eI_eP : PySem.W.kitOne K (.ref ceI) (.ref ceP) = some false)
    (ku_eI_eL : PySem.W.kitOne K (.ref ceI) (.ref ceL) = some false)
    (ku_eI_eU : PySem.W.kitOne K (.ref ceI) (.ref ceU) = some false)
    (x0_eS : PySem.W.findIn K (.ref ceS) "__getattribute__" = some (some (.builtin "BaseException.__getattribute__")))
    (x1_eS : PySem.W.findIn K (.ref ceS) "__getattr__" = some none)
    (x3_eS : PySem.W.hasDictIn K ceS = true)
    (x4_eS : PySem.W.findIn K (.ref ceS) "__class__" = some (some (.builtin "object.__class__")))
    (x7_eS : PySem.W.mroIn K ceS (.type "object") = some true)
    (pe_eS : PySem.W.subIn K (.ref ceS) (.ref PE) = some true)
    (kv_eS : PySem.W.kitOne K (.ref ceS) (.type "ValueError") = some true)
    (ku_eS_eI : PySem.W.kitOne K (.ref ceS) (.ref ceI) = some false)
    (ku_eS_eS : PySem.W.kitOne K (.ref ceS) (.ref ceS) = some true)
    (ku_eS_eT : PySem.W.kitOne K (.ref ceS) (.ref ceT) = some false)
    (ku_eS_eP : PySem.W.kitOne K (.ref ceS) (.ref ceP) = some false)
    (ku_eS_eL : PySem.W.kitOne K (.ref ceS) (.ref ceL) = some false)
    (ku_eS_eU : PySem.W.kitOne K (.ref ceS) (.ref ceU) = some false)
    (x0_eT : PySem.W.findIn K (.ref ceT) "__getattribute__" = some (some (.builtin "BaseException.__getattribute__")))
    (x1_eT : PySem.W.findIn K (.ref ceT) "__getattr__" = some none)
    (x3_eT : PySem.W.hasDictIn K ceT = true)
    (x4_eT : PySem.W.findIn K (.ref ceT) "__class__" = some (some (.builtin "object.__class__")))
    (x7_eT : PySem.W.mroIn K ceT (.type "object") = some true)
    (pe_eT : PySem.W.subIn K (.ref ceT) (.ref PE) = some true)
    (kv_eT : PySem.W.kitOne K (.ref ceT) (.type "ValueError") = some true)
    (ku_eT_eI : PySem.W.kitOne K (.ref ceT) (.ref ceI) = some false)
    (ku_eT_eS : PySem.W.kitOne K (.ref ceT) (.ref ceS) = some false)
    (ku_eT_eT : PySem.W.kitOne K (.ref ceT) (.ref ceT) = some true)
    (ku_eT_eP : PySem.W.kitOne K (.ref ceT) (.ref ceP) = some false)
    (ku_eT_eL : PySem.W.kitOne K (.ref ceT) (.ref ceL) = some false)
    (ku_eT_eU : PySem.W.kitOne K (.ref ceT) (.ref ceU) = some false)
    (x0_eP : PySem.W.findIn K (.ref ceP) "__getattribute__" = some (some (.builtin "BaseException.__getattribute__")))
    (x1_eP : PySem.W.findIn K (.ref ceP) "__getattr__" = some none)
    (x3_eP : PySem.W.hasDictIn K ceP = true)
    (x4_eP : PySem.W.findIn K (.ref ceP) "__class__" = some (some (.builtin "object.__class__")))
    (x7_eP : PySem.W.mroIn K ceP (.type "object") = some true)
    (pe_eP : PySem.W.subIn K (.ref ceP) (.ref PE) = some true)
    (kv_eP : PySem.W.kitOne K (.ref ceP) (.type "ValueError") = some true)
    (ku_eP_eI : PySem.W.kitOne K (.ref ceP) (.ref ceI) = some false)
    (ku_eP_eS : PySem.W.kitOne K (.ref ceP) (.ref ceS) = some false)
    (ku_eP_eT : PySem.W.kitOne K (.ref ceP) (.ref ceT) = some false)
    (ku_eP_eP : PySem.W.kitOne K (.ref ceP) (.ref ceP) = some true)
    (ku_eP_eL : PySem.W.kitOne K (.ref ceP) (.ref ceL) = some false)
    (ku_eP_eU : PySem.W.kitOne K (.ref ceP) (.ref ceU) = some false)
    (x0_eL : PySem.W.findIn K (.ref ceL) "__getattribute__" = some (some (.builtin "BaseException.__getattribute__")))
    (x1_eL : PySem.W.findIn K (.ref ceL) "__getattr__" = some none)
    (x3_eL : PySem.W.hasDictIn K ceL = true)
    (x4_eL : PySem.W.findIn K (.ref ceL) "__class__" = some (some (.builtin "object.__class__")))
    (x7_eL : PySem.W.mroIn K ceL (.type "object") = some true)
    (pe_eL : PySem.W.subIn K (.ref ceL) (.ref PE) = some true)
    (kv_eL : PySem.W.kitOne K (.ref ceL) (.type "ValueError") = some true)
    (ku_eL_eI : PySem.W.kitOne K (.ref ceL) (.ref ceI) = some false)
    (ku_eL_eS : PySem.W.kitOne K (.ref ceL) (.ref ceS) = some false)
    (ku_eL_eT : PySem.W.kitOne K (.ref ceL) (.ref ceT) = some false)
    (ku_eL_eP : PySem.W.kitOne K (.ref ceL) (.ref ceP) = some false)
    (ku_eL_eL : PySem.W.kitOne K (.ref ceL) (.ref ceL) = some true)
    (ku_eL_eU : PySem.W.kitOne K (.ref ceL) (.ref ceU) = some false)
    (x0_eU : PySem.W.findIn K (.ref ceU) "__getattribute__" = some (some (.builtin "BaseException.__getattribute__")))
    (x1_eU : PySem.W.findIn K (.ref ceU) "__getattr__" = some none)
    (x3_eU : PySem.W.hasDictIn K ceU = true)
    (x4_eU : PySem.W.findIn K (.ref ceU) "__class__" = some (some (.builtin "object.__class__")))
    (x7_eU : PySem.W.mroIn K ceU (.type "object") = some true)
    (pe_eU : PySem.W.subIn K (.ref ceU) (.ref PE) = some true)
    (kv_eU : PySem.W.kitOne K (.ref ceU) (.type "ValueError") = some true)
    (ku_eU_eI : PySem.W.kitOne K (.ref ceU) (.ref ceI) = some false)
    (ku_eU_eS : PySem.W.kitOne K (.ref ceU) (.ref ceS) = some false)
    (ku_eU_eT : PySem.W.kitOne K (.ref ceU) (.ref ceT) = some false)
    (ku_eU_eP : PySem.W.kitOne K (.ref ceU) (.ref ceP) = some false)
    (ku_eU_eL : PySem.W.kitOne K (.ref ceU) (.ref ceL) = some false)
    (ku_eU_eU : PySem.W.kitOne K (.ref ceU) (.ref ceU) = some true)
    (l_Document___init__ : K.lookup f_Document___init__ = some ⟨oc_Document___init__, od_Document___init__, .func (PySem.W.fnOf "__init__" "Document.__init__" (defArgs s_Document___init__) (defBody s_Document___init__) (defScope s_Document___init__) .none (.ref D0_Document___init__) dc_Document___init__ pm_Document___init__ an_Document___init__ cd_Document___init__ ct_Document___init__), sl_Document___init__⟩)
    (c_Document___init__ : PySem.W.codeIn K cd_Document___init__ "Document.__init__" = true)
    (d0_Document___init__ : PySem.W.nsIn K D0_Document___init__ "size" = some (some (.int 1000 t0_Document___init__)))
    (l_Document_names : K.lookup f_Document_names = some ⟨oc_Document_names, od_Document_names, .func (PySem.W.fnOf "names" "Document.names" (defArgs s_Document_names) (defBody s_Document_names) (defScope s_Document_names) .none kV_Document_names dc_Document_names pm_Document_names an_Document_names cd_Document_names ct_Document_names), sl_Document_names⟩)
    (c_Document_names : PySem.W.codeIn K cd_Document_names "Document.names" = true)
    (k_Document_names : PySem.W.keepIn K (.ref f_Document_names) = true)
    (l_Draft___init__ : K.lookup f_Draft___init__ = some ⟨oc_Draft___init__, od_Draft___init__, .func (PySem.W.fnX "__init__" "Draft.__init__" (defArgs s_Draft___init__) (defBody s_Draft___init__) (defScope s_Draft___init__) [(("__class__" : Str), cc_Draft___init__)] .none (.ref D0_Draft___init__) dc_Draft___init__ pm_Draft___init__ an_Draft___init__ (.ref cda_Draft___init__) ct_Draft___init__), sl_Draft___init__⟩)
    (c_Draft___init__ : PySem.W.codeIn K (.ref cda_Draft___init__) "Draft.__init__" = true)
    (h_Draft___init__ : K.lookup cc_Draft___init__ = some ⟨ccl_Draft___init__, cod_Draft___init__, .cell (some (.ref cR)), csl_Draft___init__⟩)
    (i_Draft___init__ : K.lookup cda_Draft___init__ = some ⟨kcl_Draft___init__, kod_Draft___init__, .fields vs_Draft___init__, ksl_Draft___init__⟩)
    (v_Draft___init__ : vs_Draft___init__[2]? = some (.str fl_Draft___init__ tf_Draft___init__))
    (w_Draft___init__ : ((P.main.file : Str) == fl_Draft___init__) = true)
    (d0_Draft___init__ : PySem.W.nsIn K D0_Draft___init__ "size" = some (some (.int 1000 t0_Draft___init__)))
    (l_Document_change : K.lookup f_Document_change = some ⟨oc_Document_change, od_Document_change, .func (PySem.W.fnOf "change" "Document.change" (defArgs s_Document_change) (defBody s_Document_change) (defScope s_Document_change) .none kV_Document_change dc_Document_change pm_Document_change an_Document_change cd_Document_change ct_Document_change), sl_Document_change⟩)
    (c_Document_change : PySem.W.codeIn K cd_Document_change "Document.change" = true)
    (k_Document_change : PySem.W.keepIn K (.ref f_Document_change) = true)
    (l_Draft_change : K.lookup f_Draft_change = some ⟨oc_Draft_change, od_Draft_change, .func (PySem.W.fnX "change" "Draft.change" (defArgs s_Draft_change) (defBody s_Draft_change) (defScope s_Draft_change) [(("__class__" : Str), cc_Draft_change)] .none kV_Draft_change dc_Draft_change pm_Draft_change an_Draft_change (.ref cda_Draft_change) ct_Draft_change), sl_Draft_change⟩)
    (c_Draft_change : PySem.W.codeIn K (.ref cda_Draft_change) "Draft.change" = true)
    (h_Draft_change : K.lookup cc_Draft_change = some ⟨ccl_Draft_change, cod_Draft_change, .cell (some (.ref cR)), csl_Draft_change⟩)
    (i_Draft_change : K.lookup cda_Draft_change = some ⟨kcl_Draft_change, kod_Draft_change, .fields vs_Draft_change, ksl_Draft_change⟩)
    (v_Draft_change : vs_Draft_change[2]? = some (.str fl_Draft_change tf_Draft_change))
    (w_Draft_change : ((P.main.file : Str) == fl_Draft_change) = true)
    (l_Document_insert : K.lookup f_Document_insert = some ⟨oc_Document_insert, od_Document_insert, .func (PySem.W.fnOf "insert" "Document.insert" (defArgs s_Document_insert) (defBody s_Document_insert) (defScope s_Document_insert) .none kV_Document_insert dc_Document_insert pm_Document_insert an_Document_insert cd_Document_insert ct_Document_insert), sl_Document_insert⟩)
    (c_Document_insert : PySem.W.codeIn K cd_Document_insert "Document.insert" = true)
    (k_Document_insert : PySem.W.keepIn K (.ref f_Document_insert) = true)
    (l__law_put : K.lookup f__law_put = some ⟨oc__law_put, od__law_put, .func (PySem.W.fnOf "_law_put" "_law_put" (defArgs s__law_put) (defBody s__law_put) (defScope s__law_put) .none kV__law_put dc__law_put pm__law_put an__law_put cd__law_put ct__law_put), sl__law_put⟩)
    (c__law_put : PySem.W.codeIn K cd__law_put "_law_put" = true)
    (k__law_put : PySem.W.keepIn K (.ref f__law_put) = true)
    (l_Document_remove : K.lookup f_Document_remove = some ⟨oc_Document_remove, od_Document_remove, .func (PySem.W.fnOf "remove" "Document.remove" (defArgs s_Document_remove) (defBody s_Document_remove) (defScope s_Document_remove) .none kV_Document_remove dc_Document_remove pm_Document_remove an_Document_remove cd_Document_remove ct_Document_remove), sl_Document_remove⟩)
    (c_Document_remove : PySem.W.codeIn K cd_Document_remove "Document.remove" = true)
    (k_Document_remove : PySem.W.keepIn K (.ref f_Document_remove) = true)
    (l_Document___len__ : K.lookup f_Document___len__ = some ⟨oc_Document___len__, od_Document___len__, .func (PySem.W.fnOf "__len__" "Document.__len__" (defArgs s_Document___len__) (defBody s_Document___len__) (defScope s_Document___len__) .none kV_Document___len__ dc_Document___len__ pm_Document___len__ an_Document___len__ cd_Document___len__ ct_Document___len__), sl_Document___len__⟩)
    (c_Document___len__ : PySem.W.codeIn K cd_Document___len__ "Document.__len__" = true)
    (k_Document___len__ : PySem.W.keepIn K (.ref f_Document___len__) = true)
    (l_Document_content : K.lookup f_Document_content = some ⟨oc_Document_content, od_Document_content, .func (PySem.W.fnOf "content" "Document.content" (defArgs s_Document_content) (defBody s_Document_content) (defScope s_Document_content) .none kV_Document_content dc_Document_content pm_Document_content an_Document_content cd_Document_content ct_Document_content), sl_Document_content⟩)
    (c_Document_content : PySem.W.codeIn K cd_Document_content "Document.content" = true)
    (k_Document_content : PySem.W.keepIn K (.ref f_Document_content) = true)
    (l__law_error : K.lookup f__law_error = some ⟨oc__law_error, od__law_error, .func (PySem.W.fnOf "_law_error" "_law_error" (defArgs s__law_error) (defBody s__law_error) (defScope s__law_error) .none kV__law_error dc__law_error pm__law_error an__law_error cd__law_error ct__law_error), sl__law_error⟩)
    (c__law_error : PySem.W.codeIn K cd__law_error "_law_error" = true)
    (k__law_error : PySem.W.keepIn K (.ref f__law_error) = true)
    (l__law_told : K.lookup f__law_told = some ⟨oc__law_told, od__law_told, .func (PySem.W.fnOf "_law_told" "_law_told" (defArgs s__law_told) (defBody s__law_told) (defScope s__law_told) .none kV__law_told dc__law_told pm__law_told an__law_told cd__law_told ct__law_told), sl__law_told⟩)
    (c__law_told : PySem.W.codeIn K cd__law_told "_law_told" = true)
    (k__law_told : PySem.W.keepIn K (.ref f__law_told) = true)
    (ga_law : PySem.W.nsIn K mainGlobals "law" = some (some (.ref fa)))
    (l_law : K.lookup fa = some ⟨ocL, odL, .func (PySem.W.fnOf "law" "law" (defArgs s_law) (defBody s_law) (defScope s_law) .none kVL dcL pmL anL (.ref ca) ctL), slL⟩)
    (c_law : PySem.W.codeIn K (.ref ca) "law" = true)
    (lc_law : K.lookup ca = some ⟨eL, ddL, .fields vsL, slC⟩)
    (v_law : vsL[11]? = some (.ref P0))
    (n_law : K.lookup P0 = none)
    (h_law : PySem.W.codeHdIn K ca P0 = true)
    (hlaw : ∀ ns : List Int, ns.length ≤ 63 → B_law (Ad.mk cD cR ceI ceS ceT ceP ceL ceU) (some (.scr ns) :: List.replicate 15 none) = some (.rt (.bl true))) :
    LamX.LawAtS l w K (L2N.CX P w) 9 63 "script" mg f0 h := by
  have e := hfa.symm.trans (PySem.W.mg_of X G ga_law)
  cases e
  subst hP
  have F_is_integer := fun_mk (st := s_is_integer) l_is_integer c_is_integer k_is_integer
  have F_is_name := fun_mk (st := s_is_name) l_is_name c_is_name k_is_name
  have F_mark_names := fun_mk (st := s_mark_names) l_mark_names c_mark_names k_mark_names
  have F__law_cell := fun_mk (st := s__law_cell) l__law_cell c__law_cell k__law_cell
  have F__law_is_integer := fun_mk (st := s__law_is_integer) l__law_is_integer c__law_is_integer k__law_is_integer
  have F__law_valid := fun_mk (st := s__law_valid) l__law_valid c__law_valid k__law_valid
  have F_is_item := fun_mk (st := s_is_item) l_is_item c_is_item k_is_item
  have F__law_digits := fun_mk (st := s__law_digits) l__law_digits c__law_digits k__law_digits
  have F_is_document := fun_mk (st := s_is_document) l_is_document c_is_document k_is_document
  have F_Document_names := fun_mk (st := s_Document_names) l_Document_names c_Document_names k_Document_names
  have F_Document_change := fun_mk (st := s_Document_change) l_Document_change c_Document_change k_Document_change
  have F_Document_insert := fun_mk (st := s_Document_insert) l_Document_insert c_Document_insert k_Document_insert
  have F__law_put := fun_mk (st := s__law_put) l__law_put c__law_put k__law_put
  have F_Document_remove := fun_mk (st := s_Document_remove) l_Document_remove c_Document_remove k_Document_remove
  have F_Document___len__ := fun_mk (st := s_Document___len__) l_Document___len__ c_Document___len__ k_Document___len__
  have F_Document_content := fun_mk (st := s_Document_content) l_Document_content c_Document_content k_Document_content
  have F__law_error := fun_mk (st := s__law_error) l__law_error c__law_error k__law_error
  have F__law_told := fun_mk (st := s__law_told) l__law_told c__law_told k__law_told
  let Tt : Tb K mg :=
    { a_is_integer := a_is_integer, d_is_integer := _, F_is_integer := F_is_integer, g_is_integer := PySem.W.mg_of X G ga_is_integer, b_is_integer := F_is_integer.binds (ps := ["value", "low", "high"]) fun _ _ _ _ _ _ us hl => match us, hl with | [_, _, _], _ => rfl,
      a_is_name := a_is_name, d_is_name := _, F_is_name := F_is_name, g_is_name := PySem.W.mg_of X G ga_is_name, b_is_name := F_is_name.binds (ps := ["value"]) fun _ _ _ _ _ _ us hl => match us, hl with | [_], _ => rfl,
      a_mark_names := a_mark_names, d_mark_names := _, F_mark_names := F_mark_names, g_mark_names := PySem.W.mg_of X G ga_mark_names, b_mark_names := F_mark_names.binds (ps := ["items"]) fun _ _ _ _ _ _ us hl => match us, hl with | [_], _ => rfl,
      a__law_cell := a__law_cell, d__law_cell := _, F__law_cell := F__law_cell, g__law_cell := PySem.W.mg_of X G ga__law_cell, b__law_cell := F__law_cell.binds (ps := ["script", "index"]) fun _ _ _ _ _ _ us hl => match us, hl with | [_, _], _ => rfl,
      a__law_is_integer := a__law_is_integer, d__law_is_integer := _, F__law_is_integer := F__law_is_integer, g__law_is_integer := PySem.W.mg_of X G ga__law_is_integer, b__law_is_integer := F__law_is_integer.binds (ps := ["value", "low", "high"]) fun _ _ _ _ _ _ us hl => match us, hl with | [_, _, _], _ => rfl,
      a__law_valid := a__law_valid, d__law_valid := _, F__law_valid := F__law_valid, g__law_valid := PySem.W.mg_of X G ga__law_valid, b__law_valid := F__law_valid.binds (ps := ["row"]) fun _ _ _ _ _ _ us hl => match us, hl with | [_], _ => rfl,
      a_is_item := a_is_item, d_is_item := _, F_is_item := F_is_item, g_is_item := PySem.W.mg_of X G ga_is_item, b_is_item := F_is_item.binds (ps := ["value"]) fun _ _ _ _ _ _ us hl => match us, hl with | [_], _ => rfl,
      a__law_digits := a__law_digits, d__law_digits := _, F__law_digits := F__law_digits, g__law_digits := PySem.W.mg_of X G ga__law_digits, b__law_digits := F__law_digits.binds (ps := ["script", "index", "count", "base"]) fun _ _ _ _ _ _ us hl => match us, hl with | [_, _, _, _], _ => rfl,
      a_is_document := a_is_document, d_is_document := _, F_is_document := F_is_document, g_is_document := PySem.W.mg_of X G ga_is_document, b_is_document := F_is_document.binds (ps := ["value"]) fun _ _ _ _ _ _ us hl => match us, hl with | [_], _ => rfl,
      n_ValueError := PySem.W.mg_none_of X G z_ValueError,
      n_all := PySem.W.mg_none_of X G z_all,
      n_bool := PySem.W.mg_none_of X G z_bool,
      n_int := PySem.W.mg_none_of X G z_int,
      n_isinstance := PySem.W.mg_none_of X G z_isinstance,
      n_len := PySem.W.mg_none_of X G z_len,
      n_range := PySem.W.mg_none_of X G z_range,
      n_set := PySem.W.mg_none_of X G z_set,
      n_sorted := PySem.W.mg_none_of X G z_sorted,
      n_str := PySem.W.mg_none_of X G z_str,
      n_tuple := PySem.W.mg_none_of X G z_tuple,
      n_zip := PySem.W.mg_none_of X G z_zip,
      t_LETTERS := t_LETTERS, c_LETTERS := PySem.W.mg_of X G y_LETTERS }
  let T : To l.prog K mg ⟨cD, cR, ceI, ceS, ceT, ceP, ceL, ceU⟩ :=
    { tb := Tt,
      oD := ⟨⟨o1_D, o2_D, o3_D, o4_D⟩, fun f hf => by rcases List.mem_cons.mp hf with e | hf; (rw [e]; exact n0_D); rcases List.mem_cons.mp hf with e | hf; (rw [e]; exact n1_D); rw [List.mem_singleton.mp hf]; exact n2_D⟩,
      oR := ⟨⟨o1_R, o2_R, o3_R, o4_R⟩, fun f hf => by rcases List.mem_cons.mp hf with e | hf; (rw [e]; exact n0_R); rcases List.mem_cons.mp hf with e | hf; (rw [e]; exact n1_R); rw [List.mem_singleton.mp hf]; exact n2_R⟩,
      gD := PySem.W.mg_of X G ga_Document,
      gR := PySem.W.mg_of X G ga_Draft,
      mroR := mroR,
      SR := ⟨top_, isR, PySem.W.mg_none_of X G z_super⟩,
      eI := ⟨PySem.W.mg_of X G ga_InvalidItems, e1_eI, e2_eI, e3_eI, e4_eI⟩,
      eS := ⟨PySem.W.mg_of X G ga_InvalidSize, e1_eS, e2_eS, e3_eS, e4_eS⟩,
      eT := ⟨PySem.W.mg_of X G ga_InvalidText, e1_eT, e2_eT, e3_eT, e4_eT⟩,
      eP := ⟨PySem.W.mg_of X G ga_InvalidPlace, e1_eP, e2_eP, e3_eP, e4_eP⟩,
      eL := ⟨PySem.W.mg_of X G ga_InvalidLimit, e1_eL, e2_eL, e3_eL, e4_eL⟩,
      eU := ⟨PySem.W.mg_of X G ga_UnknownMark, e1_eU, e2_eU, e3_eU, e4_eU⟩,
      s_Document___init___R := ⟨s1_Document___init___R, s2_Document___init___R, s3_Document___init___R, s4_, by decide⟩,
      b_Document_names_R := F_Document_names.binds (ps := ["self"]) fun _ _ _ _ _ _ us hl => match us, hl with | [_], _ => rfl,
      pa_Document_names_R := pa_Document_names_R,
      p_Document_names_R := ⟨p1_Document_names_R, p2_Document_names_R, p3_Document_names_R, _, p4_Document_names_R⟩,
      kR := ⟨mk1_R, mk2_R, mk3_R, mk4_R⟩,
      kD := ⟨mk1_D, mk2_D, mk3_D, mk4_D⟩,
      b_Document_change_R := F_Document_change.binds (ps := ["self", "items"]) fun _ _ _ _ _ _ us hl => match us, hl with | [_, _], _ => rfl,
      s_Document_change_R := ⟨s1_Document_change_R, s2_Document_change_R, s3_Document_change_R, s4_, by decide⟩,
      m_Draft_change_R := ⟨m1_Draft_change_R, m2_Draft_change_R, m3_Draft_change_R⟩,
      m_Document_insert_R := ⟨m1_Document_insert_R, m2_Document_insert_R, m3_Document_insert_R⟩,
      g__law_put := PySem.W.mg_of X G ga__law_put,
      k__law_put := k__law_put,
      b__law_put := F__law_put.binds (ps := ["made", "place", "row"]) fun _ _ _ _ _ _ us hl => match us, hl with | [_, _, _], _ => rfl,
      b_Document_change_D := F_Document_change.binds (ps := ["self", "items"]) fun _ _ _ _ _ _ us hl => match us, hl with | [_, _], _ => rfl,
      m_Document_change_D := ⟨m1_Document_change_D, m2_Document_change_D, m3_Document_change_D⟩,
      m_Document_insert_D := ⟨m1_Document_insert_D, m2_Document_insert_D, m3_Document_insert_D⟩,
      b_Document_remove_R := F_Document_remove.binds (ps := ["self", "place"]) fun _ _ _ _ _ _ us hl => match us, hl with | [_, _], _ => rfl,
      m_Document_remove_R := ⟨m1_Document_remove_R, m2_Document_remove_R, m3_Document_remove_R⟩,
      b_Document_remove_D := F_Document_remove.binds (ps := ["self", "place"]) fun _ _ _ _ _ _ us hl => match us, hl with | [_, _], _ => rfl,
      m_Document_remove_D := ⟨m1_Document_remove_D, m2_Document_remove_D, m3_Document_remove_D⟩,
      b_Document___len___R := F_Document___len__.binds (ps := ["self"]) fun _ _ _ _ _ _ us hl => match us, hl with | [_], _ => rfl,
      m_Document___len___R := ⟨m1_Document___len___R, m2_Document___len___R, m3_Document___len___R⟩,
      b_Document___len___D := F_Document___len__.binds (ps := ["self"]) fun _ _ _ _ _ _ us hl => match us, hl with | [_], _ => rfl,
      m_Document___len___D := ⟨m1_Document___len___D, m2_Document___len___D, m3_Document___len___D⟩,
      b_Document_content_R := F_Document_content.binds (ps := ["self"]) fun _ _ _ _ _ _ us hl => match us, hl with | [_], _ => rfl,
      pa_Document_content_R := pa_Document_content_R,
      p_Document_content_R := ⟨p1_Document_content_R, p2_Document_content_R, p3_Document_content_R, _, p4_Document_content_R⟩,
      b_Document_content_D := F_Document_content.binds (ps := ["self"]) fun _ _ _ _ _ _ us hl => match us, hl with | [_], _ => rfl,
      pa_Document_content_D := pa_Document_content_D,
      p_Document_content_D := ⟨p1_Document_content_D, p2_Document_content_D, p3_Document_content_D, _, p4_Document_content_D⟩,
      g__law_error := PySem.W.mg_of X G ga__law_error,
      k__law_error := k__law_error,
      b__law_error := F__law_error.binds (ps := ["e"]) fun _ _ _ _ _ _ us hl => match us, hl with | [_], _ => rfl,
      g__law_told := PySem.W.mg_of X G ga__law_told,
      k__law_told := k__law_told,
      b__law_told := F__law_told.binds (ps := ["call"]) fun _ _ _ _ _ _ us hl => match us, hl with | [_], _ => rfl,
      gPE := PySem.W.mg_of X G ga_PageError,
      x_eI := ⟨x0_eI, x1_eI, e3_eI, x3_eI, x4_eI, x5_, x6_, x7_eI⟩,
      m_eI := PySem.W.exm_ref pe1 pe2 pe3 pe_eI,
      v_eI := kv_eI,
      u_eI_eI := ku_eI_eI,
      u_eI_eS := ku_eI_eS,
      u_eI_eT := ku_eI_eT,
      u_eI_eP := ku_eI_eP,
      u_eI_eL := ku_eI_eL,
      u_eI_eU := ku_eI_eU,
      x_eS := ⟨x0_eS, x1_eS, e3_eS, x3_eS, x4_eS, x5_, x6_, x7_eS⟩,
      m_eS := PySem.W.exm_ref pe1 pe2 pe3 pe_eS,
      v_eS := kv_eS,
      u_eS_eI := ku_eS_eI,
      u_eS_eS := ku_eS_eS,
      u_eS_eT := ku_eS_eT,
      u_eS_eP := ku_eS_eP,
      u_eS_eL := ku_eS_eL,
      u_eS_eU := ku_eS_eU,
      x_eT := ⟨x0_eT, x1_eT, e3_eT, x3_eT, x4_eT, x5_, x6_, x7_eT⟩,
      m_eT := PySem.W.exm_ref pe1 pe2 pe3 pe_eT,
      v_eT := kv_eT,
      u_eT_eI := ku_eT_eI,
      u_eT_eS := ku_eT_eS,
      u_eT_eT := ku_eT_eT,
      u_eT_eP := ku_eT_eP,
      u_eT_eL := ku_eT_eL,
      u_eT_eU := ku_eT_eU,
      x_eP := ⟨x0_eP, x1_eP, e3_eP, x3_eP, x4_eP, x5_, x6_, x7_eP⟩,
      m_eP := PySem.W.exm_ref pe1 pe2 pe3 pe_eP,
      v_eP := kv_eP,
      u_eP_eI := ku_eP_eI,
      u_eP_eS := ku_eP_eS,
      u_eP_eT := ku_eP_eT,
      u_eP_eP := ku_eP_eP,
      u_eP_eL := ku_eP_eL,
      u_eP_eU := ku_eP_eU,
      x_eL := ⟨x0_eL, x1_eL, e3_eL, x3_eL, x4_eL, x5_, x6_, x7_eL⟩,
      m_eL := PySem.W.exm_ref pe1 pe2 pe3 pe_eL,
      v_eL := kv_eL,
      u_eL_eI := ku_eL_eI,
      u_eL_eS := ku_eL_eS,
      u_eL_eT := ku_eL_eT,
      u_eL_eP := ku_eL_eP,
      u_eL_eL := ku_eL_eL,
      u_eL_eU := ku_eL_eU,
      x_eU := ⟨x0_eU, x1_eU, e3_eU, x3_eU, x4_eU, x5_, x6_, x7_eU⟩,
      m_eU := PySem.W.exm_ref pe1 pe2 pe3 pe_eU,
      v_eU := kv_eU,
      u_eU_eI := ku_eU_eI,
      u_eU_eS := ku_eU_eS,
      u_eU_eT := ku_eU_eT,
      u_eU_eP := ku_eU_eP,
      u_eU_eL := ku_eU_eL,
      u_eU_eU := ku_eU_eU,
      f_Document___init__ := f_Document___init__,
      i_Document___init__ := ⟨_, _, _, _, _, _, _, _, _, _, l_Document___init__, c_Document___init__, d0_Document___init__⟩,
      f_Document_names := f_Document_names,
      d_Document_names := _,
      i_Document_names := F_Document_names,
      f_Draft___init__ := f_Draft___init__,
      i_Draft___init__ := ⟨_, _, _, _, _, _, _, _, _, _, _, _, _, _, _, _, _, _, _, l_Draft___init__, c_Draft___init__, h_Draft___init__, i_Draft___init__, v_Draft___init__, w_Draft___init__, ⟨_, _, rfl, d0_Draft___init__⟩⟩,
      f_Document_change := f_Document_change,
      d_Document_change := _,
      i_Document_change := F_Document_change,
      f_Draft_change := f_Draft_change,
      i_Draft_change := ⟨_, _, _, _, _, _, _, _, _, _, _, _, _, _, _, _, _, _, _, l_Draft_change, c_Draft_change, h_Draft_change, i_Draft_change, v_Draft_change, w_Draft_change, trivial⟩,
      f_Document_insert := f_Document_insert,
      d_Document_insert := _,
      i_Document_insert := F_Document_insert,
      f__law_put := f__law_put,
      d__law_put := _,
      i__law_put := F__law_put,
      f_Document_remove := f_Document_remove,
      d_Document_remove := _,
      i_Document_remove := F_Document_remove,
      f_Document___len__ := f_Document___len__,
      d_Document___len__ := _,
      i_Document___len__ := F_Document___len__,
      f_Document_content := f_Document_content,
      d_Document_content := _,
      i_Document_content := F_Document_content,
      f__law_error := f__law_error,
      d__law_error := _,
      i__law_error := F__law_error,
      f__law_told := f__law_told,
      d__law_told := _,
      i__law_told := F__law_told,
      PE := PE }
  refine ⟨_, [(ca, P0)], spLawT K P0, fun p hp => ?_, fun p hp => ?_, fun p hp => ?_, fun s v => .of_eq rfl, fun H a ns hl hb hT hS => ⟨a, ns, rfl, hS, hl, hT _ (List.mem_singleton.mpr rfl), fun _ => rfl⟩, fun base KB NB hTB => fn_of l_law c_law sc_law (fun vs H Q E ⟨a, ns, e, _⟩ => by rw [e]; rfl) fun A outer s H vs Q E hr hsp => ?_⟩
  · rw [List.mem_singleton.mp hp]; exact own ca P0 _ _ _ _ _ _ l_law rfl rfl lc_law v_law
  · rw [List.mem_singleton.mp hp]; exact n_law
  · rw [List.mem_singleton.mp hp]; exact PySem.W.codeHd_of_K X h_law
  · obtain ⟨a, ns, rfl, hS, hl, hT, hq⟩ := hsp
    obtain ⟨t, ht, hst⟩ := law_start (X := lawX l.prog w K mg base fa ca A outer s H E) (Nat.le_of_ble_eq_true rfl) (fun H0 => ok_law (H0 := H0) T (hTB _ (List.mem_singleton.mpr rfl)) hr) hlaw hq hl hS hT
    exact ⟨t, ht.nox, hst⟩
end
end
end PLaw
/-! ### part PT3 -/
namespace PL
open PySem L2 PLaw

/-! ### names -/
theorem names_run {d : Doc} (h : d.length ≤ 1000000) {N : Nat} {t1 : Rho} : compGo (tName 1) (tb (b2 gEq (b2 gIdx (fVarW 1) (fC (.int 0))) (fC (.str "mark")))) (b2 gIdx (fVarW 1) (fC (.int 1))) [t1.head?.getD none, none] (d.map itemD) = some ((names d).map .str) := by
  rw [compGo_typed itemD (fun x => [t1.head?.getD none, some (itemD x)]) Item.isMark (fun x => .str x.name) d (fun x _ => by simp) (fun x _ => by simp) (fun x _ hx => by
    cases x <;> simp [Item.isMark] at hx
    simp [Item.name])]
  simp [names]
theorem M_names {d : Doc} (h : d.length ≤ 1000000) : M_mark_names [docD d] = some (.opn ((names d).map .str)) := by
  apply run_rt
  have := names_run h (N := 0) (t1 := [some (docD d)])
  simp at this
  simp [B_mark_names, this, wipeR, small_le' (show d.length ≤ 16777216 by omega)]
theorem M_lnames {d : Doc} (h : d.length ≤ 1000000) : M__law_names [docD d] = some (.opn ((names d).map .str)) := M_names h

/-! ### starts -/
theorem names_cons {it : Item} {d : Doc} : names (it :: d) = if it.isMark then it.name :: names d else names d := by
  unfold names
  by_cases h : it.isMark = true <;> simp [h]
theorem names_len (d : Doc) : (names d).length ≤ d.length := by
  unfold names
  rw [List.length_map]
  exact List.length_filter_le _ _
/-- the dict of the numbers -/
def dicN (ns : List Str) (ν : List Int) : List (Key × D) := (ns.zip ν).map fun p => (.inr p.1, .int p.2)
theorem put_new {ns : List Str} {ν : List Int} {s : Str} {n : Int} (h : s ∉ ns) : putKD (dicN ns ν) (.inr s) (.int n) = dicN ns ν ++ [(.inr s, .int n)] := by
  unfold putKD
  rw [if_neg]
  simp only [dicN, List.any_map, List.any_eq_true, not_exists, not_and]
  intro p hp hk
  have : p.1 = s := by simpa using hk
  exact h (this ▸ (List.of_mem_zip (a := p.1) (b := p.2) hp).1)
theorem dicN_app (ns : List Str) (ν : List Int) (ms : List Str) (μ : List Int) (h : ns.length = ν.length) : dicN (ns ++ ms) (ν ++ μ) = dicN ns ν ++ dicN ms μ := by
  unfold dicN
  rw [List.zip_append h, List.map_append]
theorem dc_go {a b c d e f g h : Option D} : ∀ (ms : List Str) (μ : List Int) (ns : List Str) (ν : List Int), (ns ++ ms).Nodup → ns.length = ν.length →
    dcGo (tTup 2 (tCons (tName 4) (tCons (tName 5) tNil))) cYes (fVar 4) (fVar 5) [a, b, c, d, none, none, e, f, g] (zipD (ms.map .str) (μ.map .int)) (dicN ns ν) = some (dicN ns ν ++ dicN ms μ)
  | [], μ, ns, ν, _, _ => by simp [zipD, dcGo, dicN]
  | _ :: _, [], ns, ν, _, _ => by simp [zipD, dcGo, dicN]
  | s :: ms, n :: μ, ns, ν, hd, hl => by
    have hs : s ∉ ns := fun hm => by
      rw [List.nodup_append] at hd
      exact hd.2.2 s hm s (by simp) rfl
    have ih := dc_go (a := a) (b := b) (c := c) (d := d) (e := e) (f := f) (g := g) (h := h) ms μ (ns ++ [s]) (ν ++ [n]) (by simpa using hd) (by simp [hl])
    rw [dicN_app _ _ _ _ hl] at ih
    have e1 : dicN [s] [n] = [(.inr s, .int n)] := rfl
    rw [e1] at ih
    have e2 : dicN (s :: ms) (n :: μ) = (.inr s, .int n) :: dicN ms μ := rfl
    simp only [List.map_cons, zipD, dcGo]
    simp [put_new hs, ih, e2]
theorem look_dic : ∀ (ns : List Str) (ν : List Int) (s : Str), s ∈ ns → ns.length = ν.length → lookK (.inr s) (dicN ns ν) = some (.int (numOf ns ν s))
  | n :: ns, v :: ν, s, h, hl => by
    have e2 : dicN (n :: ns) (v :: ν) = (.inr n, .int v) :: dicN ns ν := rfl
    rw [e2]
    simp only [lookK, numOf, Sum.inr.injEq]
    by_cases hn : n = s
    · simp [hn]
    · simp only [hn, if_false]
      exact look_dic ns ν s (by rcases List.mem_cons.mp h with h | h; exact absurd h.symm hn; exact h) (by simpa using hl)
  | [], _, s, h, _ => by simp at h
  | _ :: _, [], s, h, hl => by simp at hl
theorem numOf_ok : ∀ (ns : List Str) (ν : List Int) (s : Str) (k : Nat), NumOk k ν → 0 ≤ numOf ns ν s ∧ numOf ns ν s ≤ 1000000000000
  | [], _, s, k, h => by simp [numOf]
  | _ :: _, [], s, k, h => by simp [numOf]
  | n :: ns, v :: ν, s, k, h => by
    simp only [numOf]
    split
    · exact h.2 v (by simp)
    · exact numOf_ok ns ν s ν.length ⟨rfl, fun n hn => h.2 n (by simp [hn])⟩
theorem lenOf_ok {d : Doc} {ν : List Int} {k : Nat} (h : NumOk k ν) (s : Str) : 1 ≤ lenOf d ν s ∧ lenOf d ν s ≤ 13 :=
  have := numOf_ok (names d) ν s k h
  ⟨dig_pos this.1, dig_12 this.1 this.2⟩
theorem str_len {n : Int} (h : 0 ≤ n ∧ n ≤ 1000000000000) : (gStr (.int n)).bind gLen = some (.int (dig n)) := by
  rw [gStr_int (by omega)]
  have h1 := dig_12 h.1 h.2
  have h2 : (toString n : Str).length ≤ 16777216 := by
    unfold dig at h1
    omega
  simp only [Option.bind_some, gLen, small_le' h2, if_true]
  rfl
/-- sizes of pages -/
def SizeOk (s : Int) : Prop := 1 ≤ s ∧ s ≤ 1000000
theorem step_ok {size : Int} {len : Str → Int} (hs : SizeOk size) (hl : ∀ s, 1 ≤ len s ∧ len s ≤ 13) {p : Int} {it : Item} (ht : ∀ n, it = .text n → 0 ≤ n ∧ n ≤ 1000000) (hp : 0 ≤ p) : p ≤ stepP size len p it ∧ stepP size len p it ≤ p + 1000000 := by
  cases it with
  | text n => have := ht n rfl; simp only [stepP]; omega
  | mark s => simp only [stepP]; omega
  | ref s => have := hl s; simp only [stepP]; omega
  | brk =>
    simp only [stepP]
    have h1 := Int.mul_ediv_self_le (x := p + size - 1) (k := size) (by have := hs.1; omega)
    have h2 := Int.lt_mul_ediv_self_add (x := p + size - 1) (k := size) (by have := hs.1; omega)
    have h3 := hs.1
    have h4 := hs.2
    rw [Int.mul_comm] at h1 h2
    omega
theorem starts_loop {d : Doc} {size : Int} {ν : List Int} {k : Nat} (hr : (names d).length = ν.length) (hν : NumOk k ν) (hs : SizeOk size) {a b : Option D} : ∀ (l : Doc) (acc : List D) (p : Int) (x : Option D), (∀ s, Item.ref s ∈ l → s ∈ names d) → (∀ n, Item.text n ∈ l → 0 ≤ n ∧ n ≤ 1000000) →
    acc.length + l.length ≤ 16000000 → 0 ≤ p → ∃ x', forGo (tName 8) L_starts_0 (l.map itemD) [some (docD d), some (.int size), some (numD ν), some (.dic (dicN (names d) ν)), a, b, some (.opn acc), some (.int p), x] =
      some (.nx [some (docD d), some (.int size), some (numD ν), some (.dic (dicN (names d) ν)), a, b, some (.opn (acc ++ (placesL size (lenOf d ν) p l).map .int)), some (.int (endP size (lenOf d ν) p l)), x'])
  | [], acc, p, x, _, _, _, _ => ⟨x, by simp [forGo, placesL, endP]⟩
  | it :: l, acc, p, x, h1, h2, h3, h4 => by
    have hst := step_ok hs (lenOf_ok (d := d) hν) (it := it) (p := p) (fun n e => h2 n (by rw [e]; simp)) h4
    obtain ⟨x', ih⟩ := starts_loop hr hν hs (a := a) (b := b) l (acc ++ [.int p]) (stepP size (lenOf d ν) p it) (some (itemD it)) (fun s hs => h1 s (by simp [hs])) (fun n hn => h2 n (by simp [hn])) (by simp at h3 ⊢; omega) (by omega)
    refine ⟨x', ?_⟩
    have hs1 := hs.1
    have hs2 := hs.2
    have hacc : acc.length < 16777216 := by simp at h3; omega
    rw [List.map_cons, forGo_cons (ρ1 := [some (docD d), some (.int size), some (numD ν), some (.dic (dicN (names d) ν)), a, b, some (.opn acc), some (.int p), some (itemD it)]) (by simp) (ρ2 := [some (docD d), some (.int size), some (numD ν), some (.dic (dicN (names d) ν)), a, b, some (.opn (acc ++ [.int p])), some (.int (stepP size (lenOf d ν) p it)), some (itemD it)]), ih]
    · simp [placesL, endP]
    · cases it with
      | text n => simp [L_starts_0, hacc, Item.isText, stepP]
      | mark n => simp [L_starts_0, hacc, Item.isText, Item.isRef, Item.isBrk, stepP]
      | ref n =>
        have hm := h1 n (by simp)
        have := str_len (numOf_ok (names d) ν n k hν)
        simp [L_starts_0, hacc, Item.isText, Item.isRef, Item.isBrk, stepP, look_dic _ _ _ hm hr, this, lenOf]
      | brk =>
        have hm : CMulB ((p + size - 1) / size) size = true := cmB (.inr (by omega))
        simp [L_starts_0, hacc, Item.isText, Item.isRef, Item.isBrk, stepP, div_int (show 0 < size by omega) (show size < 1073741824 by omega), mul_int hm]
theorem M_starts_eq {d : Doc} {size : Int} {ν : List Int} (hd : WF d) (hν : NumOk (names d).length ν) (hs : SizeOk size) : M_starts [docD d, .int size, numD ν] = some (.opn ((startsT d size ν).map .int)) := by
  have hn := names_len d
  have hlen := hd.len
  obtain ⟨x', hl⟩ := starts_loop (d := d) (a := none) (b := none) hν.1.symm hν hs d [] 0 none hd.refs hd.texts (by simp; omega) (by omega)
  apply run_rt
  have dcg := dc_go (a := some (docD d)) (b := some (.int size)) (c := some (numD ν)) (d := none) (e := none) (f := none) (g := none) (h := none) (names d) ν [] [] (by simpa using hd.nd) rfl
  have e0 : dicN [] [] = [] := rfl
  rw [e0, List.nil_append] at dcg
  have sm : small (zipD ((names d).map .str) (ν.map .int)).length = true := small_le' (by rw [zipD_len]; simp; omega)
  simp [B_starts, M_names (show d.length ≤ 1000000 by omega), zip2, sm, wipeR, dcg, hl, startsT]
end PL
/-! ### part PT4 -/
namespace PL
open PySem L2 PLaw

/-! ### the law's own places -/
theorem ix_of : ∀ (ns : List Str) (s : Str), s ∈ ns → ∃ j, idxD (.str s) (ns.map .str) = some j ∧ j < ns.length ∧ ∀ ν : List Int, ns.length = ν.length → ν[j]? = some (numOf ns ν s)
  | [], s, h => by simp at h
  | n :: ns, s, h => by
    by_cases hn : n = s
    · refine ⟨0, ?_, by simp, fun ν hl => ?_⟩
      · simp [idxD, eqD_str, hn]
      · cases ν with
        | nil => simp at hl
        | cons v ν => simp [numOf, hn]
    · obtain ⟨j, h1, h2, h3⟩ := ix_of ns s (by rcases List.mem_cons.mp h with h | h; exact absurd h.symm hn; exact h)
      refine ⟨j + 1, ?_, by simp; omega, fun ν hl => ?_⟩
      · simp [idxD, eqD_str, hn, h1]
      · cases ν with
        | nil => simp at hl
        | cons v ν => simp [numOf, hn, h3 ν (by simpa using hl)]
theorem names_ok {d : Doc} (h : ∀ it ∈ d, strOk it.name = true) : ∀ s ∈ names d, strOk s = true := fun s hs => by
  simp only [names, List.mem_map, List.mem_filter] at hs
  obtain ⟨it, ⟨h1, _⟩, rfl⟩ := hs
  exact h it h1
theorem atI_nat {α : Type} {xs : List α} {j : Nat} {x : α} (h : xs[j]? = some x) : atI xs (j : Int) = some x := by
  have hl := (List.getElem?_eq_some_iff.mp h).1
  unfold atI
  have : ixN xs.length (j : Int) = some j := by
    simp [ixN]
    omega
  rw [this]
  exact h
theorem gIndex_of {ns : List Str} {s : Str} (ho : ∀ s ∈ ns, strOk s = true) (h : s ∈ ns) {j : Nat} (hj : idxD (.str s) (ns.map .str) = some j) : gIndex (.lst (ns.map .str)) (.str s) = some (.int (j : Nat)) := by
  have h1 : okD DEEP (.lst (ns.map .str)) = true := by
    rw [show DEEP = (DEEP - 1) + 1 by decide, okLs]
    intro x hx
    obtain ⟨y, hy, rfl⟩ := List.mem_map.mp hx
    rw [okS]; exact ho y hy
  have h2 : okD DEEP (.str s) = true := by rw [okS]; exact ho s h
  simp [gIndex, h1, h2, hj]
/-- up to the next page's begin, one by one -/
theorem brk_while {size p : Int} (hs : SizeOk size) (hp : 0 ≤ p) {a c : Option D} {acc : Option D} :
    gWhile (fAnd (tb (b2 gEq (b2 gIdx (fVarW 5) (fC (.int 0))) (fC (.str "break")))) (tb (b2 gGt (b2 gMod (fVarW 4) (fVarW 1)) (fC (.int 0))))) L__law_places_0 [a, some (.int size), c, acc, some (.int p), some (itemD .brk)] =
      some (.nx [a, some (.int size), c, acc, some (.int ((p + size - 1) / size * size)), some (itemD .brk)]) := by
  have hs1 := hs.1
  have hs2 := hs.2
  have c1 := Int.mul_ediv_self_le (x := p + size - 1) (k := size) (by omega)
  have c2 := Int.lt_mul_ediv_self_add (x := p + size - 1) (k := size) (by omega)
  have c3 : size * ((p + size - 1) / size) = (p + size - 1) / size * size := Int.mul_comm _ _
  have c4 : ((p + size - 1) / size * size) % size = 0 := Int.mul_emod_left _ _
  generalize (p + size - 1) / size * size = e at c3 c4 ⊢
  rw [c3] at c1 c2
  obtain ⟨ρ', h1, h2⟩ := while_inv (c := fAnd (tb (b2 gEq (b2 gIdx (fVarW 5) (fC (.int 0))) (fC (.str "break")))) (tb (b2 gGt (b2 gMod (fVarW 4) (fVarW 1)) (fC (.int 0))))) (b := L__law_places_0)
    (ρ := [a, some (.int size), c, acc, some (.int p), some (itemD .brk)])
    (fun n ρ => ∃ q : Int, ρ = [a, some (.int size), c, acc, some (.int q), some (itemD .brk)] ∧ p ≤ q ∧ q ≤ e ∧ n = (e - q).toNat)
    (fun ρ => ρ = [a, some (.int size), c, acc, some (.int e), some (itemD .brk)]) (n := (e - p).toNat) ⟨p, rfl, by omega, by omega, rfl⟩ (by unfold FU; omega) (by
      rintro n ρ ⟨q, rfl, q1, q2, rfl⟩
      by_cases hq : q = e
      · left
        subst hq
        simp [mod_int (show 0 < size by omega), c4]
      · right
        have : 0 < q % size := by
          have h0 : 0 ≤ q % size := Int.emod_nonneg _ (by omega)
          rcases Int.lt_or_eq_of_le h0 with h | h
          · exact h
          · exfalso
            have hd : size ∣ e - q := Int.dvd_sub (Int.dvd_of_emod_eq_zero c4) (Int.dvd_of_emod_eq_zero h.symm)
            have := Int.le_of_dvd (by omega) hd
            omega
        refine ⟨by simp [mod_int (show 0 < size by omega), this, Item.isBrk], _, (e - (q + 1)).toNat, by omega, ?_, ⟨q + 1, rfl, by omega, by omega, rfl⟩⟩
        simp [L__law_places_0])
  rw [h1, h2]
theorem nobrk_while {size p : Int} {it : Item} (h : it.isBrk = false) {a c : Option D} {acc : Option D} :
    gWhile (fAnd (tb (b2 gEq (b2 gIdx (fVarW 5) (fC (.int 0))) (fC (.str "break")))) (tb (b2 gGt (b2 gMod (fVarW 4) (fVarW 1)) (fC (.int 0))))) L__law_places_0 [a, some (.int size), c, acc, some (.int p), some (itemD it)] =
      some (.nx [a, some (.int size), c, acc, some (.int p), some (itemD it)]) := by
  exact while_no (by simp [h])
theorem lplaces_loop {d : Doc} {size : Int} {ν : List Int} (hr : (names d).length = ν.length) (hν : NumOk (names d).length ν) (hs : SizeOk size) (hd : d.length ≤ 1000000) (ho : ∀ s ∈ names d, strOk s = true) : ∀ (l : Doc) (acc : List D) (p : Int) (x : Option D), (∀ s, Item.ref s ∈ l → s ∈ names d) → (∀ n, Item.text n ∈ l → 0 ≤ n ∧ n ≤ 1000000) →
    acc.length + l.length ≤ 16000000 → 0 ≤ p → ∃ x', forGo (tName 5) L__law_places_1 (l.map itemD) [some (docD d), some (.int size), some (numD ν), some (.opn acc), some (.int p), x] =
      some (.nx [some (docD d), some (.int size), some (numD ν), some (.opn (acc ++ (placesL size (lenOf d ν) p l).map .int)), some (.int (endP size (lenOf d ν) p l)), x'])
  | [], acc, p, x, _, _, _, _ => ⟨x, by simp [forGo, placesL, endP]⟩
  | it :: l, acc, p, x, h1, h2, h3, h4 => by
    have hst := step_ok hs (lenOf_ok (d := d) hν) (it := it) (p := p) (fun n e => h2 n (by rw [e]; simp)) h4
    obtain ⟨x', ih⟩ := lplaces_loop hr hν hs hd ho l (acc ++ [.int p]) (stepP size (lenOf d ν) p it) (some (itemD it)) (fun s hs => h1 s (by simp [hs])) (fun n hn => h2 n (by simp [hn])) (by simp at h3 ⊢; omega) (by omega)
    refine ⟨x', ?_⟩
    have hs1 := hs.1
    have hs2 := hs.2
    have hacc : acc.length < 16777216 := by simp at h3; omega
    rw [List.map_cons, forGo_cons (ρ1 := [some (docD d), some (.int size), some (numD ν), some (.opn acc), some (.int p), some (itemD it)]) (by simp) (ρ2 := [some (docD d), some (.int size), some (numD ν), some (.opn (acc ++ [.int p])), some (.int (stepP size (lenOf d ν) p it)), some (itemD it)]), ih]
    · simp [placesL, endP]
    · cases it with
      | text n =>
        have hw := nobrk_while (size := size) (p := p + n) (it := .text n) rfl (a := some (docD d)) (c := some (numD ν)) (acc := some (.opn (acc ++ [.int p])))
        simp [L__law_places_1, hacc, Item.isText, Item.isRef, stepP, hw]
      | mark n =>
        have hw := nobrk_while (size := size) (p := p) (it := .mark n) rfl (a := some (docD d)) (c := some (numD ν)) (acc := some (.opn (acc ++ [.int p])))
        simp [L__law_places_1, hacc, Item.isText, Item.isRef, stepP, hw]
      | ref n =>
        have hm := h1 n (by simp)
        have := str_len (numOf_ok (names d) ν n _ hν)
        obtain ⟨j, j1, j2, j3⟩ := ix_of (names d) n hm
        have e1 := gIndex_of ho hm j1
        have e2 : gIdx (numD ν) (.int (j : Nat)) = some (.int (numOf (names d) ν n)) := by
          show atI _ _ = _
          exact atI_nat (by rw [List.getElem?_map, j3 ν hr]; rfl)
        have hw := nobrk_while (size := size) (p := p + dig (numOf (names d) ν n)) (it := .ref n) rfl (a := some (docD d)) (c := some (numD ν)) (acc := some (.opn (acc ++ [.int p])))
        simp [L__law_places_1, hacc, Item.isText, Item.isRef, stepP, M_lnames hd, e1, e2, this, lenOf, hw]
      | brk => simp [L__law_places_1, hacc, Item.isText, Item.isRef, stepP, brk_while hs h4]
theorem M_lplaces_eq {d : Doc} {size : Int} {ν : List Int} (hd : WF d) (hν : NumOk (names d).length ν) (hs : SizeOk size) : M__law_places [docD d, .int size, numD ν] = some (.opn ((startsT d size ν).map .int)) := by
  have hlen := hd.len
  obtain ⟨x', hl⟩ := lplaces_loop (d := d) hν.1.symm hν hs (by omega) (names_ok hd.sok) d [] 0 none hd.refs hd.texts (by simp; omega) (by omega)
  apply run_rt
  simp [B__law_places, hl, startsT]

/-! ### pages -/
theorem places_nonneg {size : Int} {len : Str → Int} (hs : SizeOk size) (hl : ∀ s, 1 ≤ len s ∧ len s ≤ 13) : ∀ (l : Doc) (p : Int), (∀ n, Item.text n ∈ l → 0 ≤ n ∧ n ≤ 1000000) → 0 ≤ p → ∀ q ∈ placesL size len p l, 0 ≤ q ∧ q ≤ p + 1000000 * l.length
  | [], p, _, _ => by simp [placesL]
  | it :: l, p, h, hp => by
    have hst := step_ok hs hl (it := it) (p := p) (fun n e => h n (by rw [e]; simp)) hp
    intro q hq
    rcases List.mem_cons.mp hq with rfl | hq
    · exact ⟨hp, by simp; omega⟩
    · have := places_nonneg hs hl l _ (fun n hn => h n (by simp [hn])) (by omega) q hq
      simp; omega
theorem pages_go {size : Int} (hs : SizeOk size) {a b c d : Option D} : ∀ (l : Doc) (ps : List Int),
    compGo (tTup 2 (tCons (tName 4) (tCons (tName 5) tNil))) (tb (b2 gEq (b2 gIdx (fVarW 4) (fC (.int 0))) (fC (.str "mark")))) (fz (b2 gAdd (b2 gFdiv (fVarW 5) (fVarW 1)) (fC (.int 1)))) [a, some (.int size), c, d, none, none] (zipD (l.map itemD) (ps.map .int)) =
      some ((pagesOf size l ps).map .int)
  | [], ps => by simp [zipD, compGo, pagesOf]
  | _ :: _, [] => by simp [zipD, compGo, pagesOf]
  | it :: l, p :: ps => by
    have ih := pages_go hs (a := a) (b := b) (c := c) (d := d) l ps
    have hs1 := hs.1
    have hs2 := hs.2
    simp only [List.map_cons, zipD, compGo]
    cases it <;> simp [Item.isMark, ih, pagesOf, div_int (show 0 < size by omega) (show size < 1073741824 by omega)]
theorem M_pages_eq {d : Doc} {size : Int} {ν : List Int} (hd : WF d) (hν : NumOk (names d).length ν) (hs : SizeOk size) : M_pages [docD d, .int size, numD ν] = some (numD (pagesT d size ν)) := by
  have hlen := hd.len
  apply run_rt
  have hp := pages_go hs (a := some (docD d)) (b := none) (c := some (numD ν)) (d := some (.lst ((startsT d size ν).map .int))) d (startsT d size ν)
  have sm : small (zipD (d.map itemD) ((startsT d size ν).map .int)).length = true := small_le' (by rw [zipD_len]; simp; omega)
  simp [B_pages, M_starts_eq hd hν hs, zip2, wipeR, sm, hp, pagesT]
  rfl
theorem lpages_loop {size : Int} (hs : SizeOk size) {a c d : Option D} : ∀ (l : Doc) (ps : List Int) (acc : List Int) (x y : Option D), acc.length + l.length ≤ 16000000 → ∃ x' y',
    forGo (tTup 2 (tCons (tName 5) (tCons (tName 6) tNil))) L__law_pages_0 (zipD (l.map itemD) (ps.map .int)) [a, some (.int size), c, d, some (numD acc), x, y] =
      some (.nx [a, some (.int size), c, d, some (numD (acc ++ pagesOf size l ps)), x', y'])
  | [], ps, acc, x, y, _ => ⟨x, y, by simp [zipD, forGo, pagesOf]⟩
  | _ :: _, [], acc, x, y, _ => ⟨x, y, by simp [zipD, forGo, pagesOf]⟩
  | it :: l, p :: ps, acc, x, y, h => by
    have hs1 := hs.1
    have hs2 := hs.2
    obtain ⟨x', y', ih⟩ := lpages_loop hs (a := a) (c := c) (d := d) l ps (acc ++ if it.isMark then [p / size + 1] else []) (some (itemD it)) (some (.int p)) (by cases it <;> simp [Item.isMark] at h ⊢ <;> omega)
    refine ⟨x', y', ?_⟩
    simp only [List.map_cons, zipD]
    rw [forGo_cons (ρ1 := [a, some (.int size), c, d, some (numD acc), some (itemD it), some (.int p)]) (by simp) (ρ2 := [a, some (.int size), c, d, some (numD (acc ++ if it.isMark then [p / size + 1] else [])), some (itemD it), some (.int p)]), ih]
    · cases it <;> simp [Item.isMark, pagesOf]
    · have e1 : small (acc.length + 1) = true := small_le' (by simp at h; omega)
      cases it <;> simp [L__law_pages_0, Item.isMark, numD, gAdd, e1, div_int (show 0 < size by omega) (show size < 1073741824 by omega)]
theorem M_lpages_eq {d : Doc} {size : Int} {ν : List Int} (hd : WF d) (hν : NumOk (names d).length ν) (hs : SizeOk size) : M__law_pages [docD d, .int size, numD ν] = some (numD (pagesT d size ν)) := by
  have hlen := hd.len
  apply run_rt
  obtain ⟨x', y', hl⟩ := lpages_loop hs (a := some (docD d)) (c := some (numD ν)) (d := some (.lst ((startsT d size ν).map .int))) d (startsT d size ν) [] none none (by simp; omega)
  rw [show numD [] = .tup [] from rfl] at hl
  simp [B__law_pages, M_lplaces_eq hd hν hs, zip2, hl, pagesT]
theorem eqL_int : ∀ (xs ys : List Int), eqL (xs.map .int) (ys.map .int) = decide (xs = ys)
  | [], [] => rfl
  | [], _ :: _ => rfl
  | _ :: _, [] => rfl
  | x :: xs, y :: ys => by simp [eqL, eqD_int, eqL_int xs ys]
theorem ok_num {ν : List Int} : okD DEEP (numD ν) = true := by
  rw [show DEEP = (DEEP - 1) + 1 by decide, numD, okT]
  intro x hx
  obtain ⟨y, hy, rfl⟩ := List.mem_map.mp hx
  exact okI
theorem ok_ints {ν : List Int} : okD DEEP (.lst (ν.map .int)) = true := by
  rw [show DEEP = (DEEP - 1) + 1 by decide, okLs]
  intro x hx
  obtain ⟨y, hy, rfl⟩ := List.mem_map.mp hx
  exact okI
@[simp] theorem eq_num {μ ν : List Int} : gEq (numD μ) (numD ν) = some (.bl (decide (μ = ν))) := by
  rw [gEq_eq ok_num ok_num]; simp [numD, eqD, eqL_int]
@[simp] theorem ne_num {μ ν : List Int} : gNe (numD μ) (numD ν) = some (.bl !(decide (μ = ν))) := by
  rw [gNe_eq ok_num ok_num]; simp [numD, eqD, eqL_int]
@[simp] theorem eq_ints {μ ν : List Int} : gEq (.lst (μ.map .int)) (.lst (ν.map .int)) = some (.bl (decide (μ = ν))) := by
  rw [gEq_eq ok_ints ok_ints]; simp [eqD, eqL_int]
@[simp] theorem ne_ints {μ ν : List Int} : gNe (.lst (μ.map .int)) (.lst (ν.map .int)) = some (.bl !(decide (μ = ν))) := by
  rw [gNe_eq ok_ints ok_ints]; simp [eqD, eqL_int]
@[simp] theorem eq_bl {a b : Bool} : gEq (.bl a) (.bl b) = some (.bl (a == b)) := by
  rw [gEq_eq okB okB]; simp [eqD]
theorem M_same {a b : Bool} : M__law_same_bool [.bl a, .bl b] = some (.bl (a == b)) := by
  apply run_rt
  simp [B__law_same_bool]
theorem M_cons_eq {d : Doc} {size : Int} {ν : List Int} (hd : WF d) (hν : NumOk (names d).length ν) (hs : SizeOk size) : M_is_consistent [docD d, .int size, numD ν] = some (.bl (decide (pagesT d size ν = ν))) := by
  apply run_rt
  simp [B_is_consistent, M_pages_eq hd hν hs]
/-- the pages are a numbering -/
theorem pagesOf_mem {size : Int} : ∀ (l : Doc) (ps : List Int), ∀ x ∈ pagesOf size l ps, ∃ p ∈ ps, x = p / size + 1
  | [], ps => by simp [pagesOf]
  | _ :: _, [] => by simp [pagesOf]
  | it :: l, p :: ps => by
    intro x hx
    have ih := pagesOf_mem (size := size) l ps
    cases it <;> simp only [pagesOf, List.mem_cons] at hx
    · obtain ⟨q, h1, h2⟩ := ih x hx; exact ⟨q, by simp [h1], h2⟩
    · rcases hx with rfl | hx
      · exact ⟨p, by simp, rfl⟩
      · obtain ⟨q, h1, h2⟩ := ih x hx; exact ⟨q, by simp [h1], h2⟩
    · obtain ⟨q, h1, h2⟩ := ih x hx; exact ⟨q, by simp [h1], h2⟩
    · obtain ⟨q, h1, h2⟩ := ih x hx; exact ⟨q, by simp [h1], h2⟩
theorem pagesOf_len {size : Int} : ∀ (l : Doc) (ps : List Int), l.length = ps.length → (pagesOf size l ps).length = (names l).length
  | [], ps, _ => by simp [pagesOf, names]
  | _ :: _, [], h => by simp at h
  | it :: l, p :: ps, h => by
    have ih := pagesOf_len (size := size) l ps (by simpa using h)
    rw [names_cons]
    cases it <;> simp [pagesOf, ih, Item.isMark]
theorem pages_ok {d : Doc} {size : Int} {ν : List Int} (hd : WF d) (hν : NumOk (names d).length ν) (hs : SizeOk size) : NumOk (names d).length (pagesT d size ν) ∧ ∀ x ∈ pagesT d size ν, 1 ≤ x := by
  have key : ∀ x ∈ pagesT d size ν, 1 ≤ x ∧ x ≤ 1000000000000 := fun x hx => by
    obtain ⟨p, hp, rfl⟩ := pagesOf_mem _ _ x hx
    obtain ⟨h1, h2⟩ := places_nonneg hs (lenOf_ok (d := d) hν) d 0 hd.texts (by omega) p hp
    have h3 : 0 ≤ p / size := Int.ediv_nonneg h1 (by have := hs.1; omega)
    have h4 : p / size ≤ p := Int.ediv_le_self _ h1
    have := hd.len
    omega
  exact ⟨⟨pagesOf_len _ _ (by unfold startsT; rw [placesL_len]), fun x hx => by have := key x hx; omega⟩, fun x hx => (key x hx).1⟩
end PL
/-! ### part PT5 -/
namespace PL
open PySem L2 PLaw

/-! ### the script's cells and digits -/
theorem mul_i {a b : Int} (h : a.natAbs < 2 ^ 64 ∨ b.natAbs < 2 ^ 64) : gMul (.int a) (.int b) = some (.int (a * b)) := mul_int (cmB h)
theorem atI_of {α : Type} {xs : List α} {i : Int} (h0 : 0 ≤ i) (h1 : i < xs.length) : ∃ x, xs[i.toNat]? = some x ∧ atI xs i = some x := by
  have hl : i.toNat < xs.length := by omega
  refine ⟨xs[i.toNat], List.getElem?_eq_getElem hl, ?_⟩
  unfold atI ixN
  rw [if_pos h0, if_pos h1]
  exact List.getElem?_eq_getElem hl
/-- a number of a list -/
def atZ (ns : List Int) (i : Int) : Int := ns.getD i.toNat 0
theorem atZ_mem {ns : List Int} {i : Int} (h0 : 0 ≤ i) (h1 : i < ns.length) : atZ ns i ∈ ns := by
  have hl : i.toNat < ns.length := by omega
  unfold atZ
  rw [List.getD_eq_getElem?_getD, List.getElem?_eq_getElem hl]
  exact List.getElem_mem hl
theorem ix_ints {ns : List Int} {i : Int} (h0 : 0 ≤ i) (h1 : i < ns.length) : gIdx (.lst (ns.map .int)) (.int i) = some (.int (atZ ns i)) := by
  obtain ⟨x, h2, h3⟩ := atI_of (xs := ns.map D.int) h0 (by simpa using h1)
  rw [List.getElem?_map] at h2
  obtain ⟨y, h4, rfl⟩ := Option.map_eq_some_iff.mp h2
  show atI _ _ = _
  rw [h3]; unfold atZ; rw [List.getD_eq_getElem?_getD, h4]; rfl
theorem ix_num {ns : List Int} {i : Int} (h0 : 0 ≤ i) (h1 : i < ns.length) : gIdx (numD ns) (.int i) = some (.int (atZ ns i)) := ix_ints h0 h1
theorem ix_scr {ns : List Int} {i : Int} (h0 : 0 ≤ i) (h1 : i < ns.length) : gIdx (.scr ns) (.int i) = some (.int (atZ ns i)) := by
  obtain ⟨x, h2, h3⟩ := atI_of (xs := ns) h0 h1
  simp only [gIdx, h3, atZ, List.getD_eq_getElem?_getD, h2]; rfl
theorem M_cell {ns : List Int} {i : Int} (h : 0 ≤ i) (h2 : i ≤ 1000) : ∃ c, M__law_cell [.scr ns, .int i] = some (.int c) := by
  by_cases h1 : i < ns.length
  · refine ⟨atZ ns i, run_rt ?_⟩
    simp (disch := omega) [B__law_cell, h1, ix_scr]
  · by_cases h0 : ns.length = 0
    · refine ⟨7919 * i + 101, run_rt ?_⟩
      simp (disch := omega) [B__law_cell, h0, mul_i, show ¬ i < 0 by omega]
    · have e1 := Int.emod_nonneg i (b := (ns.length : Int)) (by omega)
      have e2 := Int.emod_lt_of_pos i (b := (ns.length : Int)) (by omega)
      refine ⟨atZ ns (i % ns.length) % 1000003 + 7919 * i, run_rt ?_⟩
      have h3 : ns ≠ [] := fun e => h0 (by simp [e])
      simp (disch := omega) [B__law_cell, h1, mul_i, ix_scr, mod_int, h3]
abbrev primesD : List D := [.int 2147483647, .int 2147483629, .int 2147483587, .int 2147483579, .int 2147483563, .int 2147483549, .int 2147483543, .int 2147483497]
theorem prime_at {j : Int} (h0 : 0 ≤ j) (h1 : j < 8) : ∃ p : Int, gIdx (.tup primesD) (.int j) = some (.int p) ∧ 2147483000 < p ∧ p < 2147483648 := by
  have : j = 0 ∨ j = 1 ∨ j = 2 ∨ j = 3 ∨ j = 4 ∨ j = 5 ∨ j = 6 ∨ j = 7 := by omega
  rcases this with rfl | rfl | rfl | rfl | rfl | rfl | rfl | rfl <;> exact ⟨_, rfl, by decide, by decide⟩
theorem digits_step {pr : D} (hpr : ∀ j : Int, 0 ≤ j → j < 8 → ∃ p : Int, gIdx pr (.int j) = some (.int p) ∧ 2147483000 < p ∧ p < 2147483648) (hfr : frzD pr = pr) {ns : List Int} {i c base r : Int} {k : Nat} {n : D} {acc : List Int} {x y : Option D} (hi : 0 ≤ i ∧ i ≤ 1000) (hb : 0 < base ∧ base ≤ 1000000) (hk : k ≤ 100000) (hl : acc.length ≤ 100000) : ∃ (v r' : Int) (y' : D), 0 ≤ v ∧ v < base ∧
    L__law_digits_0 [some (.scr ns), some (.int i), some n, some (.int base), some pr, some (.int c), some (.int r), some (.opn (acc.map .int)), some (.int (0 + (k : Nat))), y] =
      some (.nx [some (.scr ns), some (.int i), some n, some (.int base), some pr, some (.int c), some (.int r'), some (.opn ((acc ++ [v]).map .int)), some (.int (0 + (k : Nat))), some y']) := by
  obtain ⟨p1, a1, a2, a3⟩ := hpr ((k : Int) % 8) (by omega) (by omega)
  obtain ⟨p2, b1, b2', b3⟩ := hpr ((3 * (k : Int) + i) % 8) (by omega) (by omega)
  obtain ⟨p3, c1, c2, c3⟩ := hpr (((k : Int) + 5) % 8) (by omega) (by omega)
  have m3 := Int.emod_nonneg c (b := p1) (by omega)
  have m4 := Int.emod_lt_of_pos c (b := p1) (by omega)
  simp only [L__law_digits_0, e_seq, e_set]
  simp (disch := omega) only [e_b2, e_varW, e_c, e_fz, List.getElem?_cons_succ, List.getElem?_cons_zero, Option.join_some, Option.map_some, Option.bind_some, fr_int, hfr, fr_scr, mod_int, Int.zero_add, mul_i, add_int, a1, e_then, e_seq, e_set, List.set_cons_succ, List.set_cons_zero, b1, c1]
  generalize hm : (c % p1 * (48271 + 2 * (k : Int) * k) + 7919 * ((k : Int) + 1) * (k + 1) + 104729 * i) % p2 = m
  have m1 : 0 ≤ m := by rw [← hm]; exact Int.emod_nonneg _ (by omega)
  have m2 : m < p2 := by rw [← hm]; exact Int.emod_lt_of_pos _ (by omega)
  simp (disch := omega) only [mul_i, Option.bind_some, mod_int, Option.map_some, fr_int, e_then, e_seq, e_if, e_tb, e_b2, e_varW, List.getElem?_cons_succ, List.getElem?_cons_zero, Option.join_some, e_c, gt_int, as_bl, List.set_cons_succ, List.set_cons_zero]
  have hacc : acc.length < 16777216 := by omega
  by_cases hr : 0 < r
  · refine ⟨r % base, r / base, .int r, Int.emod_nonneg _ (by omega), Int.emod_lt_of_pos _ (by omega), ?_⟩
    simp (disch := omega) [hr, mod_int, div_int, hacc]
  · refine ⟨m * m * m % p3 % base, r / base, .int (m * m * m % p3), Int.emod_nonneg _ (by omega), Int.emod_lt_of_pos _ (by omega), ?_⟩
    simp (disch := omega) [hr, mod_int, div_int, hacc]
/-- digits: so many, each below the base -/
theorem M_digits {ns : List Int} {i count base : Int} (hi : 0 ≤ i ∧ i ≤ 1000) (hb : 0 < base ∧ base ≤ 1000000) (hc : 0 ≤ count ∧ count ≤ 10000) : ∃ ds : List Int, M__law_digits [.scr ns, .int i, .int count, .int base] = some (.opn (ds.map .int)) ∧ ds.length = count ∧ ∀ x ∈ ds, 0 ≤ x ∧ x < base := by
  obtain ⟨c, hcell⟩ := M_cell (ns := ns) hi.1 hi.2
  obtain ⟨ρ', h1, h2⟩ := forGo_typed (t := tName 8) (b := L__law_digits_0) (fun k : Nat => D.int (0 + (k : Nat))) (fun j ρ => ∃ (ds : List Int) (r : Int) (x y : Option D), ρ = [some (.scr ns), some (.int i), some (.int count), some (.int base), some (.tup primesD), some (.int c), some (.int r), some (.opn (ds.map .int)), x, y] ∧ ds.length = j ∧ ∀ x ∈ ds, 0 ≤ x ∧ x < base)
    (xs := List.range count.toNat) (ρ := [some (.scr ns), some (.int i), some (.int count), some (.int base), some (.tup primesD), some (.int c), some (.int (if 10 ^ 18 ≤ c then c else 0)), some (.opn []), none, none]) ⟨[], _, none, none, rfl, rfl, by simp⟩ (by
      rintro j k ρ hj ⟨ds, r, x, y, rfl, hl, hd⟩
      have hjl := (List.getElem?_eq_some_iff.mp hj).1
      have hk : k = j := by
        have := (List.getElem?_eq_some_iff.mp hj).2
        simpa using this.symm
      subst hk
      simp only [List.length_range] at hjl
      obtain ⟨v, r', y', v1, v2, hs⟩ := digits_step (pr := .tup primesD) (fun j h0 h1 => prime_at h0 h1) rfl (ns := ns) (c := c) (r := r) (n := .int count) (x := x) (y := y) (acc := ds) (k := k) hi hb (by omega) (by omega)
      refine ⟨_, _, by simp; rfl, by simpa using hs, ds ++ [v], r', _, some y', rfl, by simp [hl], fun z hz => ?_⟩
      rcases List.mem_append.mp hz with hz | hz
      · exact hd z hz
      · simp at hz; subst hz; exact ⟨v1, v2⟩)
  obtain ⟨ds, r, x, y, rfl, hl, hd⟩ := h2
  refine ⟨ds, run_rt ?_, by rw [hl, List.length_range]; omega, hd⟩
  have e1 : inR count = true := by
    exact cdec_iff.mpr (by omega)
  by_cases hcc : (10 : Int) ^ 18 ≤ c
  · rw [if_pos hcc] at h1
    have hcc' : (1000000000000000000 : Int) ≤ c := by simpa using hcc
    simp at h1
    simp [B__law_digits, hcell, gPow, hcc', rng1, e1, h1]
  · rw [if_neg hcc] at h1
    have hcc' : ¬ (1000000000000000000 : Int) ≤ c := by simpa using hcc
    simp at h1
    simp [B__law_digits, hcell, gPow, hcc', rng1, e1, h1]
end PL
/-! ### part PT6 -/
namespace PL
open PySem L2 PLaw

/-! ### the law's documents -/
def NM : List Str := ["a", "b", "cc", "dog", "e", "f", "g", "h"]
theorem NM_nd : NM.Nodup := by decide +kernel
theorem NM_ok : ∀ s ∈ NM, strOk s = true := by decide +kernel
theorem size_at {j : Int} (h0 : 0 ≤ j) (h1 : j < 4) : ∃ s : Int, gIdx (.lst [.int 1, .int 3, .int 10, .int 97]) (.int j) = some (.int s) ∧ (s = 1 ∨ s = 3 ∨ s = 10 ∨ s = 97) := by
  have : j = 0 ∨ j = 1 ∨ j = 2 ∨ j = 3 := by omega
  rcases this with rfl | rfl | rfl | rfl <;> exact ⟨_, rfl, by decide⟩
theorem names_at {k : Int} (h0 : 1 ≤ k) (h1 : k ≤ 8) : cutD [D.str "a", .str "b", .str "cc", .str "dog", .str "e", .str "f", .str "g", .str "h"] none (some k) = (NM.take k.toNat).map .str := by
  have : k = 1 ∨ k = 2 ∨ k = 3 ∨ k = 4 ∨ k = 5 ∨ k = 6 ∨ k = 7 ∨ k = 8 := by omega
  rcases this with rfl | rfl | rfl | rfl | rfl | rfl | rfl | rfl <;> rfl
theorem cut_lo {α : Type} {xs : List α} {k : Int} (h0 : 0 ≤ k) (h1 : k ≤ xs.length) : cutD xs none (some k) = xs.take k.toNat := by
  obtain ⟨n, rfl⟩ := Int.eq_ofNat_of_zero_le h0
  unfold cutD
  rw [HT.sIx_nat, HT.sIx_none]
  simp
theorem cut_hi {α : Type} {xs : List α} {k : Int} (h0 : 0 ≤ k) (h1 : k ≤ xs.length) : cutD xs (some k) none = xs.drop k.toNat := by
  obtain ⟨n, rfl⟩ := Int.eq_ofNat_of_zero_le h0
  unfold cutD
  rw [HT.sIx_nat, HT.sIx_none]
  have e : min n xs.length = n := by omega
  rw [e]
  exact List.take_of_length_le (by simp)
theorem ix_strs {ns : List Str} {i : Int} (h0 : 0 ≤ i) (h1 : i < ns.length) : ∃ s ∈ ns, gIdx (.lst (ns.map .str)) (.int i) = some (.str s) := by
  obtain ⟨x, h2, h3⟩ := atI_of (xs := ns.map D.str) h0 (by simpa using h1)
  rw [List.getElem?_map] at h2
  obtain ⟨y, h4, rfl⟩ := Option.map_eq_some_iff.mp h2
  exact ⟨y, List.mem_of_getElem? h4, h3⟩
theorem ix_items {ns : Doc} {i : Int} (h0 : 0 ≤ i) (h1 : i < ns.length) : ∃ s, ns[i.toNat]? = some s ∧ gIdx (.lst (ns.map itemD)) (.int i) = some (itemD s) := by
  obtain ⟨x, h2, h3⟩ := atI_of (xs := ns.map itemD) h0 (by simpa using h1)
  rw [List.getElem?_map] at h2
  obtain ⟨y, h4, rfl⟩ := Option.map_eq_some_iff.mp h2
  exact ⟨y, h4, h3⟩
theorem ok_item {it : Item} (h : strOk it.name = true) {n : Nat} : okD (n + 1) (itemD it) = true := by
  cases it
  · rw [itemD, okT]; intro x hx; simp at hx; rcases hx with rfl | rfl
    · rw [okS]; exact s_text
    · exact okI
  · rw [itemD, okT]; intro x hx; simp at hx; rcases hx with rfl | rfl
    · rw [okS]; exact s_mark
    · rw [okS]; exact h
  · rw [itemD, okT]; intro x hx; simp at hx; rcases hx with rfl | rfl
    · rw [okS]; exact s_ref
    · rw [okS]; exact h
  · rw [itemD, okT]; intro x hx; simp at hx; subst hx
    rw [okS]; exact s_break
theorem ok_items {l : Doc} (h : ∀ it ∈ l, strOk it.name = true) : okD DEEP (.lst (l.map itemD)) = true := by
  rw [show DEEP = ((DEEP - 2) + 1) + 1 by decide, okLs]
  intro x hx
  obtain ⟨y, hy, rfl⟩ := List.mem_map.mp hx
  exact ok_item (h y hy)
theorem ok_doc {l : Doc} (h : ∀ it ∈ l, strOk it.name = true) : okD DEEP (docD l) = true := by
  rw [show DEEP = ((DEEP - 2) + 1) + 1 by decide, docD, okT]
  intro x hx
  obtain ⟨y, hy, rfl⟩ := List.mem_map.mp hx
  exact ok_item (h y hy)
theorem ne_nil_items {l : Doc} (h : ∀ it ∈ l, strOk it.name = true) : gNe (.lst (l.map itemD)) (.lst []) = some (.bl !(decide (l = []))) := by
  rw [gNe_eq (ok_items h) (by rfl)]
  cases l <;> simp [eqD, eqL]

/-- what the parts of a document have together -/
structure Parts (nm : List Str) (size : Int) (l : Doc) : Prop where
  nms : (names l).Perm nm
  refs : ∀ s, Item.ref s ∈ l → s ∈ nm
  texts : ∀ n, Item.text n ∈ l → 0 ≤ n ∧ n ≤ 92 * size
theorem names_app (a b : Doc) : names (a ++ b) = names a ++ names b := by simp [names]
theorem names_perm {a b : Doc} (h : a.Perm b) : (names a).Perm (names b) := (h.filter _).map _
theorem Parts.perm {nm : List Str} {size : Int} {l m : Doc} (h : Parts nm size l) (p : l.Perm m) : Parts nm size m where
  nms := (names_perm p.symm).trans h.nms
  refs := fun s hs => h.refs s (p.symm.subset hs)
  texts := fun n hn => h.texts n (p.symm.subset hn)
theorem Parts.ref {nm : List Str} {size : Int} {l : Doc} (h : Parts nm size l) {s : Str} (hs : s ∈ nm) : Parts nm size (l ++ [.ref s]) where
  nms := by rw [names_app]; simpa [names, Item.isMark] using h.nms
  refs := fun t ht => by
    simp at ht
    rcases ht with ht | rfl
    · exact h.refs t ht
    · exact hs
  texts := fun n hn => h.texts n (by simpa using hn)
theorem Parts.text {nm : List Str} {size : Int} {l : Doc} (h : Parts nm size l) {n : Int} (h0 : 0 ≤ n ∧ n ≤ 92 * size) : Parts nm size (l ++ [.text n]) where
  nms := by rw [names_app]; simpa [names, Item.isMark] using h.nms
  refs := fun t ht => h.refs t (by simpa using ht)
  texts := fun n hn => by
    simp at hn
    rcases hn with hn | rfl
    · exact h.texts n hn
    · exact h0
theorem Parts.brks {nm : List Str} {size : Int} {l : Doc} (h : Parts nm size l) (k : Nat) : Parts nm size (l ++ List.replicate k .brk) where
  nms := by
    rw [names_app]
    have : names (List.replicate k Item.brk) = [] := by simp [names, Item.isMark]
    rw [this, List.append_nil]
    exact h.nms
  refs := fun t ht => h.refs t (by simp [List.mem_replicate] at ht; exact ht)
  texts := fun n hn => h.texts n (by simp [List.mem_replicate] at hn; exact hn)
theorem Parts.sok {nm : List Str} {size : Int} {l : Doc} (h : Parts nm size l) (hn : ∀ s ∈ nm, s ∈ NM) : ∀ it ∈ l, strOk it.name = true := fun it hi => by
  cases it with
  | text n => exact s_break
  | brk => exact s_break
  | ref s => exact NM_ok s (hn s (h.refs s hi))
  | mark s => exact NM_ok s (hn s (h.nms.subset (by simp only [names, List.mem_map, List.mem_filter]; exact ⟨.mark s, ⟨hi, rfl⟩, rfl⟩)))
/-- what an item adds at most -/
def wt (size : Int) : Item → Int
  | .text n => n
  | .ref _ => 13
  | .brk => size
  | .mark _ => 0
def wtL (size : Int) : Doc → Int
  | [] => 0
  | it :: l => wt size it + wtL size l
theorem wtL_app {size : Int} : ∀ a b : Doc, wtL size (a ++ b) = wtL size a + wtL size b
  | [], b => by simp [wtL]
  | it :: a, b => by simp only [List.cons_append, wtL, wtL_app a b]; omega
theorem wtL_perm {size : Int} {a b : Doc} (p : a.Perm b) : wtL size a = wtL size b := by
  induction p with
  | nil => rfl
  | cons x _ ih => simp only [wtL, ih]
  | swap x y l => simp only [wtL]; omega
  | trans _ _ h1 h2 => exact h1.trans h2
theorem wtL_marks {size : Int} : ∀ nm : List Str, wtL size (nm.map Item.mark) = 0
  | [] => rfl
  | s :: nm => by simp only [List.map_cons, wtL, wt, wtL_marks nm]; rfl
theorem wtL_brks {size : Int} : ∀ k : Nat, wtL size (List.replicate k Item.brk) = size * (k : Int)
  | 0 => by simp [wtL]
  | k + 1 => by simp only [List.replicate_succ, wtL, wt, wtL_brks k, Int.natCast_succ, Int.mul_add, Int.mul_one]; omega
structure DocOk (d : Doc) (size most : Int) : Prop where
  wf : WF d
  sz : size = 1 ∨ size = 3 ∨ size = 10 ∨ size = 97
  len : d.length ≤ 21
  n1 : 1 ≤ (names d).length
  nm : (names d).length ≤ most
  tx : ∀ n, Item.text n ∈ d → n ≤ 92 * size
  inNM : ∀ s ∈ names d, s ∈ NM
theorem DocOk.size {d : Doc} {size most : Int} (h : DocOk d size most) : SizeOk size := by
  rcases h.sz with rfl | rfl | rfl | rfl <;> exact ⟨by decide, by decide⟩
theorem Parts.doc {nm : List Str} {size most : Int} {l : Doc} (h : Parts nm size l) (hs : size = 1 ∨ size = 3 ∨ size = 10 ∨ size = 97) (hd : nm.Nodup) (hn : ∀ s ∈ nm, s ∈ NM) (h1 : 1 ≤ nm.length) (h2 : nm.length ≤ most) (hl : l.length ≤ 21) : DocOk l size most where
  wf := ⟨h.nms.nodup_iff.mpr hd, fun s hs => h.nms.symm.subset (h.refs s hs), fun n hn => ⟨(h.texts n hn).1, by have := (h.texts n hn).2; omega⟩, h.sok hn, by omega⟩
  sz := hs
  len := hl
  n1 := by rw [h.nms.length_eq]; exact h1
  nm := by rw [h.nms.length_eq]; exact h2
  tx := fun n hn => (h.texts n hn).2
  inNM := fun s hs => hn s (h.nms.subset hs)
/-- a turn over references -/
theorem doc_ref {ds : List Int} {most size : Int} {nm : List Str} {l : Doc} {a x7 x8 x9 x10 : Option D} {k : Nat} (hp : Parts nm size l) (hd : 51 ≤ ds.length) (h1 : 1 ≤ nm.length) (hk : k < 7) (hl : l.length ≤ 1000) : ∃ s ∈ nm,
    L__law_document_2 [some (.lst (ds.map .int)), some (.int most), some (.int size), some (.lst (nm.map .str)), some (.opn (l.map itemD)), a, some (.int (0 + (k : Nat))), x7, x8, x9, x10] =
      some (.nx [some (.lst (ds.map .int)), some (.int most), some (.int size), some (.lst (nm.map .str)), some (.opn ((l ++ [Item.ref s]).map itemD)), a, some (.int (0 + (k : Nat))), x7, x8, x9, x10]) := by
  have e1 := Int.emod_nonneg (atZ ds (10 + (k : Int))) (b := (nm.length : Int)) (by omega)
  have e2 := Int.emod_lt_of_pos (atZ ds (10 + (k : Int))) (b := (nm.length : Int)) (by omega)
  obtain ⟨s, hs, hi⟩ := ix_strs e1 e2
  refine ⟨s, hs, ?_⟩
  have hacc : l.length < 16777216 := by omega
  have h3 : nm ≠ [] := fun e => by rw [e] at h1; simp at h1
  simp (disch := omega) [L__law_document_2, ix_ints, mod_int, hi, hacc, itemD]
/-- a turn over texts -/
theorem doc_text {ds : List Int} {most size : Int} {nm : List Str} {l : Doc} {a x7 x8 x9 x10 : Option D} {k : Nat} (hp : Parts nm size l) (hs : size = 1 ∨ size = 3 ∨ size = 10 ∨ size = 97) (hd : 51 ≤ ds.length) (h0 : ∀ x ∈ ds, 0 ≤ x) (hk : k < 6) (hl : l.length ≤ 1000) : ∃ n y7 y8, (0 ≤ n ∧ n ≤ 92 * size) ∧
    L__law_document_1 [some (.lst (ds.map .int)), some (.int most), some (.int size), some (.lst (nm.map .str)), some (.opn (l.map itemD)), a, some (.int (0 + (k : Nat))), x7, x8, x9, x10] =
      some (.nx [some (.lst (ds.map .int)), some (.int most), some (.int size), some (.lst (nm.map .str)), some (.opn ((l ++ [Item.text n]).map itemD)), a, some (.int (0 + (k : Nat))), y7, y8, x9, x10]) := by
  have g0 : 0 ≤ atZ ds (20 + (k : Int)) := h0 _ (atZ_mem (by omega) (by omega))
  have hacc : l.length < 16777216 := by omega
  generalize hx : atZ ds (20 + (k : Int)) = x at g0
  have e1 := Int.emod_nonneg x (b := size + 3) (by omega)
  have e2 := Int.emod_lt_of_pos x (b := size + 3) (by omega)
  have e3 := Int.emod_nonneg x (b := 3 * size) (by omega)
  have e4 := Int.emod_lt_of_pos x (b := 3 * size) (by omega)
  have hj : ∃ n, gIdx (.lst [.int (x % 7), .int size, .int (size * 8 + x % (size + 3)), .int (size * 89 + x % (size + 3)), .int (x % (3 * size))]) (.int (x / 7 % 5)) = some (.int n) ∧ 0 ≤ n ∧ n ≤ 92 * size := by
    have : x / 7 % 5 = 0 ∨ x / 7 % 5 = 1 ∨ x / 7 % 5 = 2 ∨ x / 7 % 5 = 3 ∨ x / 7 % 5 = 4 := by omega
    rcases this with e | e | e | e | e <;> rw [e] <;> exact ⟨_, rfl, by omega, by omega⟩
  obtain ⟨n, n1, n2⟩ := hj
  refine ⟨n, some (.int x), some (.lst [.int (x % 7), .int size, .int (size * 8 + x % (size + 3)), .int (size * 89 + x % (size + 3)), .int (x % (3 * size))]), n2, ?_⟩
  simp (disch := omega) [L__law_document_1, ix_ints, mod_int, div_int, mul_i, hx, hacc, itemD, n1]
theorem rep_one (k : Int) (x : D) : rep k [x] = List.replicate k.toNat x := by
  unfold rep
  induction k.toNat with
  | zero => rfl
  | succ n ih => rw [List.replicate_succ, List.flatten_cons, ih, List.replicate_succ]; rfl
/-- a turn of the choice -/
theorem doc_pick {ds : List Int} {most size : Int} {nm : List Str} {d l : Doc} {a x6 x7 x8 x10 : Option D} (hp : Parts nm size (d ++ l)) (hn : ∀ s ∈ nm, s ∈ NM) (hd : 51 ≤ ds.length) (hl : (d ++ l).length ≤ 21) (hne : l ≠ []) : ∃ d' l' y10, (d' ++ l').Perm (d ++ l) ∧ l'.length < l.length ∧
    L__law_document_0 [some (.lst (ds.map .int)), some (.int most), some (.int size), some (.lst (nm.map .str)), some (.opn (l.map itemD)), a, x6, x7, x8, some (docD d), x10] =
      some (.nx [some (.lst (ds.map .int)), some (.int most), some (.int size), some (.lst (nm.map .str)), some (.opn (l'.map itemD)), a, x6, x7, x8, some (docD d'), y10]) := by
  have hlp : 0 < l.length := List.length_pos_iff.mpr hne
  simp only [List.length_append] at hl
  have e1 := Int.emod_nonneg (atZ ds (30 + (d.length : Int))) (b := (l.length : Int)) (by omega)
  have e2 := Int.emod_lt_of_pos (atZ ds (30 + (d.length : Int))) (b := (l.length : Int)) (by omega)
  have hj : gMod (.int (atZ ds (30 + (d.length : Int)))) (.int (l.length : Int)) = some (.int (atZ ds (30 + (d.length : Int)) % (l.length : Int))) := mod_int (by omega)
  generalize atZ ds (30 + (d.length : Int)) % (l.length : Int) = j at e1 e2 hj
  obtain ⟨s, hs, hi⟩ := ix_items e1 e2
  have hjl : j.toNat < l.length := by omega
  have hs' : l[j.toNat] = s := (List.getElem?_eq_some_iff.mp hs).2
  refine ⟨d ++ [s], l.take j.toNat ++ l.drop (j.toNat + 1), some (.int j), ?_, ?_, ?_⟩
  · have e : l = l.take j.toNat ++ s :: l.drop (j.toNat + 1) := by
      rw [← hs', ← List.drop_eq_getElem_cons hjl, List.take_append_drop]
    rw [List.append_assoc]
    refine List.Perm.append_left d ?_
    conv => rhs; rw [e]
    exact (List.perm_middle (l₁ := l.take j.toNat)).symm
  · simp; omega
  · have t1 : (j + 1).toNat = j.toNat + 1 := by omega
    have c1 := cut_lo (xs := l.map itemD) e1 (by simp; omega)
    have c2 := cut_hi (xs := l.map itemD) (k := j + 1) (by omega) (by simp; omega)
    rw [t1] at c2
    have hsm : small (d.length + 1) = true := small_le' (by omega)
    have hsm2 : small (j.toNat + (l.length - (j.toNat + 1))) = true := small_le' (by omega)
    simp (disch := omega) [L__law_document_0, ix_ints, hj, hi, docD, gAdd, gSl, c1, c2, hsm, hsm2]
theorem zero_le_of {n : Nat} : (0 : Int) + (n : Int) = n := by omega
theorem rng1_eq {n : Int} (h : 0 ≤ n ∧ n < 2 ^ 62) : rng1 [.int n] = some ((List.range n.toNat).map fun i : Nat => .int (0 + (i : Nat))) := by
  have : inR n = true := cdec_iff.mpr (by omega)
  simp only [rng1, this, if_true]
theorem range_get {n i k : Nat} (h : (List.range n)[i]? = some k) : k = i ∧ i < n := by
  have h1 := (List.getElem?_eq_some_iff.mp h).1
  have h2 := (List.getElem?_eq_some_iff.mp h).2
  simp at h1 h2
  exact ⟨h2.symm, h1⟩
/-- the law's document -/
theorem M_docW {ds : List Int} {most : Int} (hd : 51 ≤ ds.length) (h0 : ∀ x ∈ ds, 0 ≤ x) (hm : 1 ≤ most ∧ most ≤ 8) : ∃ d size, M__law_document [.lst (ds.map .int), .int most] = some (.tup [docD d, .int size]) ∧ DocOk d size most ∧ wtL size d ≤ 78 + 462 * size := by
  obtain ⟨size, s1, s2⟩ := size_at (j := atZ ds 0 % 4) (by omega) (by omega)
  have m1 := Int.emod_nonneg (atZ ds 1) (b := most) (by omega)
  have m2 := Int.emod_lt_of_pos (atZ ds 1) (b := most) (by omega)
  have hk := names_at (k := 1 + atZ ds 1 % most) (by omega) (by omega)
  generalize hnm : NM.take (1 + atZ ds 1 % most).toNat = nm at hk
  have hnl : nm.length = (1 + atZ ds 1 % most).toNat := by
    rw [← hnm, List.length_take]
    have : NM.length = 8 := rfl
    omega
  have hnd : nm.Nodup := by rw [← hnm]; exact NM_nd.sublist (List.take_sublist _ _)
  have hnN : ∀ s ∈ nm, s ∈ NM := fun s hs => by rw [← hnm] at hs; exact List.mem_of_mem_take hs
  have hp0 : Parts nm size (nm.map Item.mark) := by
    refine ⟨?_, fun s hs => by simp at hs, fun n hn => by simp at hn⟩
    have : names (nm.map Item.mark) = nm := by
      unfold names
      rw [List.filter_map, List.map_map]
      have : (Item.isMark ∘ Item.mark) = fun _ => true := rfl
      rw [this]
      have e2 : nm.filter (fun _ => true) = nm := by simp
      rw [e2]
      have : (Item.name ∘ Item.mark) = id := rfl
      rw [this, List.map_id]
    rw [this]
  -- references
  obtain ⟨ρ1, r1, n1, l1, rfl, p1, q1, u1⟩ := forGo_typed (t := tName 6) (b := L__law_document_2) (fun k : Nat => D.int (0 + (k : Nat)))
    (fun j ρ => ∃ (x : Option D) (l : Doc), ρ = [some (.lst (ds.map .int)), some (.int most), some (.int size), some (.lst (nm.map .str)), some (.opn (l.map itemD)), none, x, none, none, none, none] ∧ Parts nm size l ∧ l.length = nm.length + j ∧ wtL size l = 13 * (j : Int))
    (xs := List.range (atZ ds 2 % 7).toNat) (ρ := [some (.lst (ds.map .int)), some (.int most), some (.int size), some (.lst (nm.map .str)), some (.opn ((nm.map Item.mark).map itemD)), none, none, none, none, none, none])
    ⟨none, nm.map Item.mark, rfl, hp0, by simp, by rw [wtL_marks]; rfl⟩ (by
      rintro j k ρ hj ⟨x, l, rfl, hp, hl, hw⟩
      obtain ⟨rfl, hj⟩ := range_get hj
      obtain ⟨s, hs, hr⟩ := doc_ref (ds := ds) (most := most) (a := none) (x7 := none) (x8 := none) (x9 := none) (x10 := none) (k := k) hp hd (by omega) (by omega) (by omega)
      exact ⟨_, _, by simp; rfl, by simpa using hr, _, _, rfl, hp.ref hs, by simp; omega, by rw [wtL_app, hw]; simp only [wtL, wt]; omega⟩)
  simp only [List.length_range] at q1 u1
  -- texts
  obtain ⟨ρ2, r2, _, x2, y2, z2, l2, rfl, p2, q2, u2⟩ := forGo_typed (t := tName 6) (b := L__law_document_1) (fun k : Nat => D.int (0 + (k : Nat)))
    (fun j ρ => ∃ (n : Nat) (x y z : Option D) (l : Doc), ρ = [some (.lst (ds.map .int)), some (.int most), some (.int size), some (.lst (nm.map .str)), some (.opn (l.map itemD)), none, x, y, z, none, none] ∧ Parts nm size l ∧ l.length = l1.length + j ∧ wtL size l ≤ wtL size l1 + (92 * size) * (j : Int))
    (xs := List.range (atZ ds 3 % 6).toNat) (ρ := [some (.lst (ds.map .int)), some (.int most), some (.int size), some (.lst (nm.map .str)), some (.opn (l1.map itemD)), none, n1, none, none, none, none])
    ⟨0, n1, none, none, l1, rfl, p1, by simp, by simp⟩ (by
      rintro j k ρ hj ⟨n, x, y, z, l, rfl, hp, hl, hw⟩
      obtain ⟨rfl, hj⟩ := range_get hj
      obtain ⟨v, y7, y8, hv, hr⟩ := doc_text (ds := ds) (most := most) (a := none) (x7 := y) (x8 := z) (x9 := none) (x10 := none) (k := k) hp s2 hd h0 (by omega) (by omega)
      exact ⟨_, _, by simp; rfl, by simpa using hr, 0, _, _, _, _, rfl, hp.text hv, by simp; omega, by
        have hv2 := hv.2
        rw [wtL_app]; simp only [wtL, wt]; rw [Int.natCast_succ, Int.mul_add, Int.mul_one]; omega⟩)
  simp only [List.length_range] at q2 u2
  have p3 := p2.brks (atZ ds 4 / 3 % 3).toNat
  generalize hall : l2 ++ List.replicate (atZ ds 4 / 3 % 3).toNat Item.brk = all at p3
  have hlen : all.length ≤ 21 := by rw [← hall]; simp; omega
  have hwt : wtL size all ≤ 78 + 462 * size := by
    rw [← hall, wtL_app, wtL_brks]
    have w1 : (92 * size) * ((atZ ds 3 % 6).toNat : Int) ≤ (92 * size) * 5 := Int.mul_le_mul_of_nonneg_left (by omega) (by omega)
    have w2 : size * ((atZ ds 4 / 3 % 3).toNat : Int) ≤ size * 2 := Int.mul_le_mul_of_nonneg_left (by omega) (by omega)
    have w3 : ((atZ ds 2 % 7).toNat : Int) ≤ 6 := by omega
    omega
  obtain ⟨ρ3, r3, d, x3, rfl, hperm⟩ := while_inv (c := tb (b2 gNe (fVarW 4) (fz (fLst fsNil)))) (b := L__law_document_0)
    (ρ := [some (.lst (ds.map .int)), some (.int most), some (.int size), some (.lst (nm.map .str)), some (.opn (all.map itemD)), none, x2, y2, z2, some (docD []), none])
    (fun n ρ => ∃ (d l : Doc) (x : Option D), ρ = [some (.lst (ds.map .int)), some (.int most), some (.int size), some (.lst (nm.map .str)), some (.opn (l.map itemD)), none, x2, y2, z2, some (docD d), x] ∧ (d ++ l).Perm all ∧ n = l.length)
    (fun ρ => ∃ (d : Doc) (x : Option D), ρ = [some (.lst (ds.map .int)), some (.int most), some (.int size), some (.lst (nm.map .str)), some (.opn []), none, x2, y2, z2, some (docD d), x] ∧ d.Perm all) (n := all.length)
    ⟨[], all, none, rfl, by simp, rfl⟩ (by unfold FU; omega) (by
      rintro n ρ ⟨d, l, x, rfl, hpm, rfl⟩
      have hpp := p3.perm hpm.symm
      have hsok : ∀ it ∈ l, strOk it.name = true := fun it hi => hpp.sok hnN it (by simp [hi])
      have hll : (d ++ l).length ≤ 21 := by rw [hpm.length_eq]; exact hlen
      by_cases hl : l = []
      · left
        subst hl
        have e0 := ne_nil_items (l := []) (by simp)
        rw [List.map_nil] at e0
        refine ⟨by simp [e0], d, x, rfl, by simpa using hpm⟩
      · right
        obtain ⟨d', l', y, h1, h2, h3⟩ := doc_pick (ds := ds) (most := most) (a := none) (x6 := x2) (x7 := y2) (x8 := z2) (x10 := x) hpp hnN hd hll hl
        exact ⟨by simp [ne_nil_items hsok, hl], _, l'.length, h2, h3, d', l', y, rfl, h1.trans hpm, rfl⟩)
  refine ⟨d, size, run_rt ?_, (p3.perm hperm.symm).doc s2 hnd hnN (by omega) (by omega) (by rw [hperm.length_eq]; exact hlen), by rw [wtL_perm hperm]; exact hwt⟩
  have c0 : compGo (tName 5) cYes (fTup (fsCons (fC (.str "mark")) (fsCons (fVar 5) fsNil))) [some (.lst (ds.map .int)), some (.int most), some (.int size), some (.lst (nm.map .str)), none, none, none, none, none, none, none] (nm.map .str) = some ((nm.map Item.mark).map itemD) := by
    rw [compGo_typed D.str (fun s => [some (.lst (ds.map .int)), some (.int most), some (.int size), some (.lst (nm.map .str)), none, some (.str s), none, none, none, none, none]) (fun _ => true) (fun s => itemD (.mark s)) nm (fun _ _ => rfl) (fun _ _ => rfl) (fun _ _ _ => by simp [itemD])]
    rw [show nm.filter (fun _ => true) = nm by simp, List.map_map]
    rfl
  have hsm : small nm.length = true := small_le' (by omega)
  have e6 : rng1 [.int (atZ ds 2 % 7)] = _ := rng1_eq (by omega)
  have e7 : rng1 [.int (atZ ds 3 % 6)] = _ := rng1_eq (by omega)
  have hsm2 : small (l2.length + (atZ ds 4 / 3 % 3).toNat) = true := small_le' (by omega)
  have hrep : gMul (.lst [.tup [.str "break"]]) (.int (atZ ds 4 / 3 % 3)) = some (.opn (List.replicate (atZ ds 4 / 3 % 3).toNat (.tup [.str "break"]))) := by
    have : (1 : Nat) ≤ 1000 ∧ -1000 ≤ atZ ds 4 / 3 % 3 ∧ atZ ds 4 / 3 % 3 ≤ 1000 := by omega
    simp only [gMul, List.length_singleton, this, and_self, if_true, rep_one]
  have hall' : l2.map itemD ++ List.replicate (atZ ds 4 / 3 % 3).toNat (.tup [.str "break"]) = all.map itemD := by rw [← hall]; simp [itemD]
  have hadd : gAdd (.lst (l2.map itemD)) (.lst (List.replicate (atZ ds 4 / 3 % 3).toNat (.tup [.str "break"]))) = some (.opn (all.map itemD)) := by
    simp [gAdd, hsm2, hall']
  simp only [docD, List.map_nil] at r3
  simp only [Int.zero_add] at r1 r2
  simp only [B__law_document]
  simp (disch := omega) [ix_ints, mod_int, div_int, s1, gSl, hk, hsm, wipeR, c0, e6, e7, hrep, hadd, -List.map_map, r1, r2, r3]
  rfl
theorem M_doc {ds : List Int} {most : Int} (hd : 51 ≤ ds.length) (h0 : ∀ x ∈ ds, 0 ≤ x) (hm : 1 ≤ most ∧ most ≤ 8) : ∃ d size, M__law_document [.lst (ds.map .int), .int most] = some (.tup [docD d, .int size]) ∧ DocOk d size most := by
  obtain ⟨d, size, h1, h2, _⟩ := M_docW hd h0 hm
  exact ⟨d, size, h1, h2⟩
/-! ### the law's starts -/
theorem start_at {x j : Int} (h0 : 0 ≤ j) (h1 : j < 7) (hx : 0 ≤ x ∧ x < 1000000) : ∃ s : Int, gIdx (.lst [.int 1, .int 9, .int 10, .int 99, .int 100, .int (1 + x), .int 1000000000]) (.int j) = some (.int s) ∧ 1 ≤ s ∧ s ≤ 1000000000 := by
  have : j = 0 ∨ j = 1 ∨ j = 2 ∨ j = 3 ∨ j = 4 ∨ j = 5 ∨ j = 6 := by omega
  rcases this with rfl | rfl | rfl | rfl | rfl | rfl | rfl <;> exact ⟨_, rfl, by omega, by omega⟩
theorem start_turn {ds : List Int} {dd : D} {ν : List Int} {it : Item} {y : Option D} (h0 : ∀ x ∈ ds, 0 ≤ x ∧ x < 1000000) (hl : it.isMark = true → ν.length < ds.length) (hs : ν.length ≤ 100000) : ∃ ν' y', ν'.length = ν.length + (if it.isMark then 1 else 0) ∧ ((∀ n ∈ ν, 1 ≤ n ∧ n ≤ 1000000000) → ∀ n ∈ ν', 1 ≤ n ∧ n ≤ 1000000000) ∧
    L__law_start_0 [some (.lst (ds.map .int)), some dd, some (numD ν), some (itemD it), y] = some (.nx [some (.lst (ds.map .int)), some dd, some (numD ν'), some (itemD it), y']) := by
  by_cases hm : it.isMark = true
  · have hx := h0 _ (atZ_mem (ns := ds) (i := (ν.length : Int)) (by omega) (by have := hl hm; omega))
    have hlt := hl hm
    have hix : gIdx (.lst (ds.map .int)) (.int (ν.length : Int)) = some (.int (atZ ds ν.length)) := ix_ints (by omega) (by omega)
    generalize atZ ds (ν.length : Int) = x at hx hix
    obtain ⟨s, s1, s2⟩ := start_at (x := x) (j := x % 7) (by omega) (by omega) hx
    refine ⟨ν ++ [s], some (.int x), by simp [hm], fun h n hn => ?_, ?_⟩
    · simp at hn
      rcases hn with hn | rfl
      · exact h n hn
      · exact s2
    · have hsm : small (ν.length + 1) = true := small_le' (by omega)
      simp (disch := omega) [L__law_start_0, hm, hix, mod_int, gPow, s1, numD, gAdd, hsm]
  · have hm : it.isMark = false := by simpa using hm
    refine ⟨ν, y, by simp [hm], fun h => h, ?_⟩
    simp [L__law_start_0, hm]
theorem start_loop {ds : List Int} {dd : D} (h0 : ∀ x ∈ ds, 0 ≤ x ∧ x < 1000000) : ∀ (l : Doc) (ν : List Int) (x y : Option D), ν.length + (names l).length ≤ ds.length → ν.length + l.length ≤ 100000 → (∀ n ∈ ν, 1 ≤ n ∧ n ≤ 1000000000) → ∃ ν' x' y', ν'.length = ν.length + (names l).length ∧ (∀ n ∈ ν', 1 ≤ n ∧ n ≤ 1000000000) ∧
    forGo (tName 3) L__law_start_0 (l.map itemD) [some (.lst (ds.map .int)), some dd, some (numD ν), x, y] = some (.nx [some (.lst (ds.map .int)), some dd, some (numD ν'), x', y'])
  | [], ν, x, y, _, _, h => ⟨ν, x, y, by simp [names], h, rfl⟩
  | it :: l, ν, x, y, h1, h2, h3 => by
    rw [names_cons] at h1
    obtain ⟨ν1, y1, l1, b1, r1⟩ := start_turn (ds := ds) (dd := dd) (ν := ν) (it := it) (y := y) h0 (fun hm => by rw [if_pos hm] at h1; simp at h1; omega) (by omega)
    have hl2 : ν1.length + (names l).length = ν.length + (names (it :: l)).length := by
      rw [names_cons, l1]
      by_cases hm : it.isMark = true
      · simp [hm]; omega
      · simp [hm]
    obtain ⟨ν', x', y', l2, b2, r2⟩ := start_loop h0 l ν1 (some (itemD it)) y1 (by rw [hl2, names_cons]; exact h1) (by simp at h2; rw [l1]; split <;> omega) (b1 h3)
    refine ⟨ν', x', y', by rw [l2, hl2], b2, ?_⟩
    rw [List.map_cons, forGo_cons (ρ1 := [some (.lst (ds.map .int)), some dd, some (numD ν), some (itemD it), y]) (by simp) r1, r2]
theorem M_start {ds : List Int} {d : Doc} (h0 : ∀ x ∈ ds, 0 ≤ x ∧ x < 1000000) (hl : (names d).length ≤ ds.length) (hd : d.length ≤ 100000) : ∃ ν, M__law_start [.lst (ds.map .int), docD d] = some (numD ν) ∧ ν.length = (names d).length ∧ ∀ n ∈ ν, 1 ≤ n ∧ n ≤ 1000000000 := by
  obtain ⟨ν, x, y, h1, h2, h3⟩ := start_loop (dd := docD d) h0 d [] none none (by simpa using hl) (by simpa using hd) (by simp)
  refine ⟨ν, run_rt ?_, by simpa using h1, h2⟩
  rw [show numD [] = .tup [] from rfl] at h3
  simp [B__law_start, h3]
end PL
/-! ### part PT7 -/
namespace PL
open PySem L2 PLaw

/-! ### at most, place by place -/
def Le : List Int → List Int → Prop
  | [], [] => True
  | x :: xs, y :: ys => x ≤ y ∧ Le xs ys
  | _, _ => False
theorem Le.refl : ∀ xs : List Int, Le xs xs
  | [] => trivial
  | x :: xs => ⟨Int.le_refl x, Le.refl xs⟩
theorem Le.trans : ∀ {xs ys zs : List Int}, Le xs ys → Le ys zs → Le xs zs
  | [], [], [], _, _ => trivial
  | _ :: _, _ :: _, _ :: _, h, k => ⟨Int.le_trans h.1 k.1, Le.trans h.2 k.2⟩
  | [], [], _ :: _, _, k => k.elim
  | [], _ :: _, _, h, _ => h.elim
  | _ :: _, [], _, h, _ => h.elim
  | _ :: _, _ :: _, [], _, k => k.elim
theorem Le.antisymm : ∀ {xs ys : List Int}, Le xs ys → Le ys xs → xs = ys
  | [], [], _, _ => rfl
  | x :: xs, y :: ys, h, k => by rw [Int.le_antisymm h.1 k.1, Le.antisymm h.2 k.2]
  | [], _ :: _, h, _ => h.elim
  | _ :: _, [], h, _ => h.elim
theorem Le.len : ∀ {xs ys : List Int}, Le xs ys → xs.length = ys.length
  | [], [], _ => rfl
  | x :: xs, y :: ys, h => by simp [Le.len h.2]
  | [], _ :: _, h => h.elim
  | _ :: _, [], h => h.elim
theorem Le.app : ∀ {xs ys us vs : List Int}, Le xs ys → Le us vs → Le (xs ++ us) (ys ++ vs)
  | [], [], _, _, _, k => k
  | x :: xs, y :: ys, _, _, h, k => ⟨h.1, Le.app h.2 k⟩
  | [], _ :: _, _, _, h, _ => h.elim
  | _ :: _, [], _, _, h, _ => h.elim
theorem Le.of_get : ∀ {xs ys : List Int}, xs.length = ys.length → (∀ (i : Nat) (x y : Int), xs[i]? = some x → ys[i]? = some y → x ≤ y) → Le xs ys
  | [], [], _, _ => trivial
  | x :: xs, y :: ys, h, k => ⟨k 0 x y rfl rfl, Le.of_get (by simpa using h) fun i a b ha hb => k (i + 1) a b (by simpa using ha) (by simpa using hb)⟩
  | [], _ :: _, h, _ => by simp at h
  | _ :: _, [], h, _ => by simp at h
theorem Le.get : ∀ {xs ys : List Int}, Le xs ys → ∀ {i : Nat} {x y : Int}, xs[i]? = some x → ys[i]? = some y → x ≤ y
  | [], [], _, i, x, y, h, _ => by simp at h
  | x :: xs, y :: ys, h, 0, a, b, ha, hb => by simp at ha hb; subst ha hb; exact h.1
  | x :: xs, y :: ys, h, i + 1, a, b, ha, hb => h.2.get (by simpa using ha) (by simpa using hb)
  | [], _ :: _, h, _, _, _, _, _ => h.elim
  | _ :: _, [], h, _, _, _, _, _ => h.elim
/-- the law's own test -/
def belowB (xs ys : List Int) : Bool := (xs.zip ys).all fun p => decide (p.1 ≤ p.2)
theorem Le.below : ∀ {xs ys : List Int}, Le xs ys → belowB xs ys = true
  | [], [], _ => rfl
  | x :: xs, y :: ys, h => by
    have := Le.below h.2
    unfold belowB at this ⊢
    simp [h.1] at this ⊢
    exact this
  | [], _ :: _, h => h.elim
  | _ :: _, [], h => h.elim
theorem Le.of_below : ∀ {xs ys : List Int}, xs.length = ys.length → belowB xs ys = true → Le xs ys
  | [], [], _, _ => trivial
  | x :: xs, y :: ys, h, k => by
    unfold belowB at k
    simp only [List.zip_cons_cons, List.all_cons, Bool.and_eq_true, decide_eq_true_eq] at k
    exact ⟨k.1, Le.of_below (by simpa using h) k.2⟩
  | [], _ :: _, h, _ => by simp at h
  | _ :: _, [], h, _ => by simp at h

/-! ### places grow -/
theorem div_mono {a b s : Int} (hs : 0 < s) (h : a ≤ b) : a / s ≤ b / s := Int.ediv_le_ediv hs h
theorem step_mono {size : Int} {f g : Str → Int} (hs : 0 < size) (h : ∀ s, f s ≤ g s) {p q : Int} (hp : p ≤ q) (it : Item) : stepP size f p it ≤ stepP size g q it := by
  cases it with
  | text n => simp only [stepP]; omega
  | mark n => exact hp
  | ref s => have := h s; simp only [stepP]; omega
  | brk => exact Int.mul_le_mul_of_nonneg_right (div_mono hs (by omega)) (by omega)
theorem places_mono {size : Int} {f g : Str → Int} (hs : 0 < size) (h : ∀ s, f s ≤ g s) : ∀ (d : Doc) {p q : Int}, p ≤ q → Le (placesL size f p d) (placesL size g q d)
  | [], _, _, _ => trivial
  | it :: r, p, q, hp => ⟨hp, places_mono hs h r (step_mono hs h hp it)⟩
theorem end_mono {size : Int} {f g : Str → Int} (hs : 0 < size) (h : ∀ s, f s ≤ g s) : ∀ (d : Doc) {p q : Int}, p ≤ q → endP size f p d ≤ endP size g q d
  | [], _, _, hp => hp
  | it :: r, p, q, hp => end_mono hs h r (step_mono hs h hp it)
theorem pagesOf_mono {size : Int} (hs : 0 < size) : ∀ (d : Doc) {ps qs : List Int}, Le ps qs → Le (pagesOf size d ps) (pagesOf size d qs)
  | [], ps, qs, _ => by simp only [pagesOf]; exact trivial
  | it :: r, [], [], _ => by simp only [pagesOf]; exact trivial
  | it :: r, p :: ps, q :: qs, h => by
    have ih := pagesOf_mono hs r h.2
    cases it <;> simp only [pagesOf]
    · exact ih
    · exact ⟨by have := div_mono hs h.1; omega, ih⟩
    · exact ih
    · exact ih
  | _ :: _, [], _ :: _, h => h.elim
  | _ :: _, _ :: _, [], h => h.elim
theorem numOf_mono : ∀ {ns : List Str} {ν μ : List Int}, Le ν μ → ∀ s, numOf ns ν s ≤ numOf ns μ s
  | [], ν, μ, _, s => by simp [numOf]
  | n :: ns, [], [], _, s => by simp [numOf]
  | n :: ns, x :: ν, y :: μ, h, s => by
    simp only [numOf]
    split
    · exact h.1
    · exact numOf_mono h.2 s
  | _ :: _, [], _ :: _, h, _ => h.elim
  | _ :: _, _ :: _, [], h, _ => h.elim
theorem lenOf_mono {d : Doc} {ν μ : List Int} {k : Nat} (h : Le ν μ) (hν : NumOk k ν) (s : Str) : lenOf d ν s ≤ lenOf d μ s := dig_mono (numOf_ok _ ν s k hν).1 (numOf_mono h s)
theorem starts_mono {d : Doc} {size : Int} {ν μ : List Int} {k : Nat} (hs : SizeOk size) (h : Le ν μ) (hν : NumOk k ν) : Le (startsT d size ν) (startsT d size μ) :=
  places_mono (by have := hs.1; omega) (lenOf_mono h hν) d (Int.le_refl 0)
theorem pages_mono {d : Doc} {size : Int} {ν μ : List Int} {k : Nat} (hs : SizeOk size) (h : Le ν μ) (hν : NumOk k ν) : Le (pagesT d size ν) (pagesT d size μ) :=
  pagesOf_mono (by have := hs.1; omega) d (starts_mono hs h hν)

/-! ### a text more -/
theorem places_app {size : Int} {len : Str → Int} : ∀ (a b : Doc) (p : Int), placesL size len p (a ++ b) = placesL size len p a ++ placesL size len (endP size len p a) b
  | [], b, p => rfl
  | it :: a, b, p => by simp [placesL, endP, places_app a b]
theorem end_app {size : Int} {len : Str → Int} : ∀ (a b : Doc) (p : Int), endP size len p (a ++ b) = endP size len (endP size len p a) b
  | [], b, p => rfl
  | it :: a, b, p => by simp [endP, end_app a b]
theorem pagesOf_app {size : Int} : ∀ (a b : Doc) (ps qs : List Int), a.length = ps.length → pagesOf size (a ++ b) (ps ++ qs) = pagesOf size a ps ++ pagesOf size b qs
  | [], b, [], qs, _ => by simp [pagesOf]
  | it :: a, b, p :: ps, qs, h => by
    have ih := pagesOf_app (size := size) a b ps qs (by simpa using h)
    cases it <;> simp [pagesOf, ih]
  | [], _, _ :: _, _, h => by simp at h
  | _ :: _, _, [], _, h => by simp at h
/-- pages with given lengths of the names' numbers -/
def pagesL (size : Int) (len : Str → Int) (p : Int) (d : Doc) : List Int := pagesOf size d (placesL size len p d)
theorem pagesT_eq (d : Doc) (size : Int) (ν : List Int) : pagesT d size ν = pagesL size (lenOf d ν) 0 d := rfl
theorem pagesL_app {size : Int} {len : Str → Int} (a b : Doc) (p : Int) : pagesL size len p (a ++ b) = pagesL size len p a ++ pagesL size len (endP size len p a) b := by
  unfold pagesL
  rw [places_app, pagesOf_app _ _ _ _ (placesL_len ..).symm]
theorem pagesL_mono {size : Int} {f g : Str → Int} (hs : 0 < size) (h : ∀ s, f s ≤ g s) (d : Doc) {p q : Int} (hp : p ≤ q) : Le (pagesL size f p d) (pagesL size g q d) := pagesOf_mono hs d (places_mono hs h d hp)
/-- an item without a name -/
def plainIt : Item → Bool
  | .text _ => true
  | .brk => true
  | _ => false
theorem pagesL_plain {size : Int} {len : Str → Int} {it : Item} (h : plainIt it = true) (p : Int) : pagesL size len p [it] = [] := by
  cases it <;> simp [plainIt] at h <;> simp [pagesL, placesL, pagesOf]
theorem names_ins {a b : Doc} {it : Item} (h : it.isMark = false) : names (a ++ [it] ++ b) = names (a ++ b) := by
  simp [names, h]
theorem lenOf_names {d e : Doc} {ν : List Int} (h : names d = names e) : lenOf d ν = lenOf e ν := by funext s; unfold lenOf; rw [h]
theorem step_up {size : Int} {len : Str → Int} (hs : 0 < size) {it : Item} (h : plainIt it = true) (hp : ∀ n, it = .text n → 0 ≤ n) {p : Int} (h0 : 0 ≤ p) : p ≤ stepP size len p it := by
  cases it with
  | text n => have := hp n rfl; simp only [stepP]; omega
  | mark s => simp [plainIt] at h
  | ref s => simp [plainIt] at h
  | brk =>
    simp only [stepP]
    have h2 := Int.lt_mul_ediv_self_add (x := p + size - 1) (k := size) hs
    rw [Int.mul_comm] at h2
    omega
theorem end_nonneg {size : Int} {len : Str → Int} (hs : SizeOk size) (hl : ∀ s, 1 ≤ len s ∧ len s ≤ 13) : ∀ (l : Doc) (p : Int), (∀ n, Item.text n ∈ l → 0 ≤ n ∧ n ≤ 1000000) → 0 ≤ p → 0 ≤ endP size len p l
  | [], p, _, hp => hp
  | it :: l, p, h, hp => by
    have hst := step_ok hs hl (it := it) (p := p) (fun n e => h n (by rw [e]; simp)) hp
    exact end_nonneg hs hl l _ (fun n hn => h n (by simp [hn])) (by omega)
theorem pages_ins {a b : Doc} {it : Item} {size : Int} {ν : List Int} {k : Nat} (hs : SizeOk size) (h : plainIt it = true) (hp : ∀ n, it = .text n → 0 ≤ n) (hν : NumOk k ν) (ht : ∀ n, Item.text n ∈ a → 0 ≤ n ∧ n ≤ 1000000) :
    Le (pagesT (a ++ b) size ν) (pagesT (a ++ [it] ++ b) size ν) := by
  have hm : it.isMark = false := by cases it <;> simp [plainIt] at h <;> rfl
  rw [pagesT_eq, pagesT_eq, lenOf_names (names_ins hm), pagesL_app, pagesL_app, pagesL_app, pagesL_plain h, List.append_nil]
  refine (Le.refl _).app (pagesL_mono (by have := hs.1; omega) (fun s => Int.le_refl _) b ?_)
  rw [end_app]
  exact step_up (by have := hs.1; omega) h hp (end_nonneg hs (lenOf_ok hν) a 0 ht (by omega))

/-! ### pages do not fall along the document -/
theorem places_pw {size : Int} {len : Str → Int} (hs : SizeOk size) (hl : ∀ s, 1 ≤ len s ∧ len s ≤ 13) : ∀ (l : Doc) (p : Int), (∀ n, Item.text n ∈ l → 0 ≤ n ∧ n ≤ 1000000) → 0 ≤ p → (placesL size len p l).Pairwise (· ≤ ·) ∧ ∀ q ∈ placesL size len p l, p ≤ q
  | [], p, _, _ => by simp [placesL]
  | it :: l, p, h, hp => by
    have hst := step_ok hs hl (it := it) (p := p) (fun n e => h n (by rw [e]; simp)) hp
    obtain ⟨i1, i2⟩ := places_pw hs hl l (stepP size len p it) (fun n hn => h n (by simp [hn])) (by omega)
    simp only [placesL]
    refine ⟨List.pairwise_cons.mpr ⟨fun q hq => by have := i2 q hq; omega, i1⟩, fun q hq => ?_⟩
    rcases List.mem_cons.mp hq with rfl | hq
    · exact Int.le_refl _
    · have := i2 q hq; omega
theorem pagesOf_pw {size : Int} (hs : 0 < size) : ∀ (d : Doc) {ps : List Int}, ps.Pairwise (· ≤ ·) → (pagesOf size d ps).Pairwise (· ≤ ·)
  | [], ps, _ => by simp [pagesOf]
  | it :: r, [], _ => by simp [pagesOf]
  | it :: r, p :: ps, h => by
    rw [List.pairwise_cons] at h
    have ih := pagesOf_pw hs r h.2
    cases it <;> simp only [pagesOf]
    · exact ih
    · refine List.pairwise_cons.mpr ⟨fun x hx => ?_, ih⟩
      obtain ⟨q, h1, rfl⟩ := pagesOf_mem _ _ x hx
      have := div_mono hs (h.1 q h1)
      omega
    · exact ih
    · exact ih
theorem pages_pw {d : Doc} {size : Int} {ν : List Int} (hd : WF d) (hν : NumOk (names d).length ν) (hs : SizeOk size) : (pagesT d size ν).Pairwise (· ≤ ·) :=
  pagesOf_pw (by have := hs.1; omega) d (places_pw hs (lenOf_ok hν) d 0 hd.texts (by omega)).1

/-! ### the law's test -/
theorem M_below_of {x y : D} {a b : List Int} (hx : zip2 x y = some (zipD (a.map .int) (b.map .int))) (hn : noOpn x = some x) (hm : noOpn y = some y) (hl : a.length ≤ 1000000) : M__law_below [x, y] = some (.bl (belowB a b)) := by
  apply run_rt
  have hc : compGo (tTup 2 (tCons (tName 2) (tCons (tName 3) tNil))) (tb (b2 gGt (fVarW 2) (fVarW 3))) (fC (.int 1)) [some x, some y, none, none] (zipD (a.map .int) (b.map .int)) = some (((a.zip b).filter fun p => decide (p.2 < p.1)).map fun _ => D.int 1) := by
    rw [zipD_map]
    exact compGo_typed (fun p : Int × Int => D.tup [.int p.1, .int p.2]) (fun p => [some x, some y, some (.int p.1), some (.int p.2)]) (fun p => decide (p.2 < p.1)) (fun _ => D.int 1) _ (fun p _ => by simp) (fun p _ => by simp) (fun p _ _ => by simp)
  have sm : small (zipD (a.map .int) (b.map .int)).length = true := small_le' (by rw [zipD_len]; simp; omega)
  have key : ∀ l : List (Int × Int), gEq (.lst ((l.filter fun p => decide (p.2 < p.1)).map fun _ => D.int 1)) (.lst []) = some (.bl (l.all fun p => decide (p.1 ≤ p.2))) := by
    intro l
    have e : ((l.filter fun p => decide (p.2 < p.1)).map fun _ => D.int 1) = (((l.filter fun p => decide (p.2 < p.1)).map fun _ => (1 : Int))).map .int := by simp
    rw [e]
    have := eq_ints (μ := (l.filter fun p => decide (p.2 < p.1)).map fun _ => (1 : Int)) (ν := [])
    rw [List.map_nil] at this
    rw [this]
    congr 2
    rw [Bool.eq_iff_iff]
    simp [List.filter_eq_nil_iff]
  simp [B__law_below, hx, hn, hm, wipeR, sm, hc, key, belowB]
theorem M_below_num {a b : List Int} (hl : a.length ≤ 1000000) : M__law_below [numD a, numD b] = some (.bl (belowB a b)) := M_below_of (by simp [zip2]) rfl rfl hl
theorem M_below_lst {a b : List Int} (hl : a.length ≤ 1000000) : M__law_below [.lst (a.map .int), .lst (b.map .int)] = some (.bl (belowB a b)) := M_below_of (by simp [zip2]) rfl rfl hl
end PL
/-! ### part PT8 -/
namespace PL
open PySem L2 PLaw

/-! ### documents changed -/
theorem WF.ins {a b : Doc} {it : Item} (h : WF (a ++ b)) (hp : plainIt it = true) (ht : ∀ n, it = .text n → 0 ≤ n ∧ n ≤ 1000000) (hl : (a ++ b).length < 100000) : WF (a ++ [it] ++ b) := by
  have hm : it.isMark = false := by cases it <;> simp [plainIt] at hp <;> rfl
  have hmem : ∀ x, x ∈ a ++ [it] ++ b → x = it ∨ x ∈ a ++ b := fun x hx => by
    simp at hx ⊢; rcases hx with h | h | h <;> simp [h]
  refine ⟨by rw [names_ins hm]; exact h.nd, fun s hs => ?_, fun n hn => ?_, fun x hx => ?_, by simp at hl ⊢; omega⟩
  · rw [names_ins hm]
    rcases hmem _ hs with e | e
    · rw [← e] at hp; simp [plainIt] at hp
    · exact h.refs s e
  · rcases hmem _ hn with e | e
    · exact ht n e.symm
    · exact h.texts n e
  · rcases hmem _ hx with e | e
    · subst e
      cases x <;> simp [plainIt] at hp
      · exact s_break
      · exact s_break
    · exact h.sok x e
theorem gSl_doc_lo {d : Doc} {k : Int} (h0 : 0 ≤ k) (h1 : k ≤ d.length) : gSl (docD d) none (some k) = some (docD (d.take k.toNat)) := by
  simp only [docD, gSl, cut_lo (xs := d.map itemD) h0 (by simpa using h1), List.map_take]
theorem gSl_doc_hi {d : Doc} {k : Int} (h0 : 0 ≤ k) (h1 : k ≤ d.length) : gSl (docD d) (some k) none = some (docD (d.drop k.toNat)) := by
  simp only [docD, gSl, cut_hi (xs := d.map itemD) h0 (by simpa using h1), List.map_drop]
theorem gAdd_doc {a b : Doc} (h : a.length + b.length ≤ 16777216) : gAdd (docD a) (docD b) = some (docD (a ++ b)) := by
  simp only [docD, gAdd, List.length_map, small_le' h, if_true, List.map_append]
theorem gAdd_num {a b : List Int} (h : a.length + b.length ≤ 16777216) : gAdd (numD a) (numD b) = some (numD (a ++ b)) := by
  simp only [numD, gAdd, List.length_map, small_le' h, if_true, List.map_append]
theorem doc_one (it : Item) : D.tup [itemD it] = docD [it] := rfl
theorem take_drop {α : Type} (l : List α) (n : Nat) : l.take n ++ l.drop n = l := List.take_append_drop n l
/-- ints zipped and joined to a tuple -/
theorem zip_comp {f : Int → Int → Int} {i j : Nat} {e : Rho → Option D} {ρ : Rho} (hi : ∀ x y : Int, tTup 2 (tCons (tName i) (tCons (tName j) tNil)) (.tup [.int x, .int y]) ρ = some ((ρ.set i (some (.int x))).set j (some (.int y))))
    (he : ∀ x y : Int, e ((ρ.set i (some (.int x))).set j (some (.int y))) = some (.int (f x y))) : ∀ (xs ys : List Int),
    compGo (tTup 2 (tCons (tName i) (tCons (tName j) tNil))) cYes e ρ (zipD (xs.map .int) (ys.map .int)) = some ((List.zipWith f xs ys).map .int)
  | [], ys => by simp [zipD, compGo]
  | _ :: _, [] => by simp [zipD, compGo]
  | x :: xs, y :: ys => by
    have ih := zip_comp hi he xs ys
    simp only [List.map_cons, zipD, compGo, hi, Option.bind_some, cYes, if_true, he, ih, Option.map_some, List.zipWith_cons_cons]
def mn (x y : Int) : Int := if y < x then y else x
def mx (x y : Int) : Int := if y > x then y else x
theorem zw_len {f : Int → Int → Int} {xs ys : List Int} (h : xs.length = ys.length) : (List.zipWith f xs ys).length = xs.length := by simp [h]
theorem mn_mx_le : ∀ (xs ys : List Int), Le (List.zipWith mn xs ys) (List.zipWith mx xs ys)
  | [], ys => by simp only [List.zipWith_nil_left]; exact trivial
  | _ :: _, [] => by simp only [List.zipWith_nil_right]; exact trivial
  | x :: xs, y :: ys => ⟨by unfold mn mx; split <;> split <;> omega, mn_mx_le xs ys⟩
theorem zw_mem {f : Int → Int → Int} (hf : ∀ x y, f x y = x ∨ f x y = y) : ∀ (xs ys : List Int) (z : Int), z ∈ List.zipWith f xs ys → z ∈ xs ∨ z ∈ ys
  | [], ys, z, h => by simp at h
  | _ :: _, [], z, h => by simp at h
  | x :: xs, y :: ys, z, h => by
    simp only [List.zipWith_cons_cons, List.mem_cons] at h
    rcases h with rfl | h
    · rcases hf x y with e | e <;> rw [e] <;> simp
    · rcases zw_mem hf xs ys z h with h | h <;> simp [h]
theorem NumOk.zw {f : Int → Int → Int} (hf : ∀ x y, f x y = x ∨ f x y = y) {k : Nat} {xs ys : List Int} (hx : NumOk k xs) (hy : NumOk k ys) : NumOk k (List.zipWith f xs ys) :=
  ⟨by rw [zw_len (by rw [hx.1, hy.1]), hx.1], fun n hn => (zw_mem hf xs ys n hn).elim (hx.2 n) (hy.2 n)⟩
theorem mn_or (x y : Int) : mn x y = x ∨ mn x y = y := by unfold mn; split <;> simp
theorem mx_or (x y : Int) : mx x y = x ∨ mx x y = y := by unfold mx; split <;> simp
theorem NumOk.of1 {k : Nat} {ν : List Int} (h1 : ν.length = k) (h2 : ∀ n ∈ ν, 1 ≤ n ∧ n ≤ 1000000000) : NumOk k ν := ⟨h1, fun n hn => by have := h2 n hn; omega⟩
/-- a slice of the digits -/
theorem dig_drop {ds : List Int} {k : Int} (h0 : 0 ≤ k) (h1 : k ≤ ds.length) : gSl (.lst (ds.map .int)) (some k) none = some (.opn ((ds.drop k.toNat).map .int)) := by
  simp only [gSl, cut_hi (xs := ds.map D.int) h0 (by simpa using h1), List.map_drop]
/-- a start from the digits behind a place -/
theorem start_of {ds : List Int} {d : Doc} {size most : Int} {j : Int} (hd : DocOk d size most) (h0 : ∀ x ∈ ds, 0 ≤ x ∧ x < 27720) (hj : 0 ≤ j) (hl : j + most ≤ ds.length) : ∃ ν, M__law_start [.lst ((ds.drop j.toNat).map .int), docD d] = some (numD ν) ∧ ν.length = (names d).length ∧ ∀ n ∈ ν, 1 ≤ n ∧ n ≤ 1000000000 := by
  have hdl := hd.len
  have hnm := hd.nm
  exact M_start (ds := ds.drop j.toNat) (d := d) (fun x hx => by have := h0 x (List.mem_of_mem_drop hx); omega) (by rw [List.length_drop]; omega) (by omega)
end PL
/-! ### part PU22 -/
namespace PL
open PySem L2 PLaw

/-! ### values of any kind, at most n deep -/
mutual
def okV : Nat → D → Bool
  | _, .non => true
  | _, .bl _ => true
  | _, .int _ => true
  | _, .str x => strOk x && decide (x.length ≤ 1000)
  | n + 1, .tup xs => okVL n xs
  | n + 1, .lst xs => okVL n xs
  | _, _ => false
def okVL : Nat → List D → Bool
  | _, [] => true
  | n, x :: xs => okV n x && okVL n xs
end
theorem okVL_iff {n : Nat} : ∀ {xs : List D}, okVL n xs = true ↔ ∀ x ∈ xs, okV n x = true
  | [] => by simp [okVL]
  | x :: xs => by simp [okVL, okVL_iff (xs := xs)]
theorem vI {n : Nat} {i : Int} : okV n (.int i) = true := by cases n <;> simp only [okV]
theorem vB {n : Nat} {i : Bool} : okV n (.bl i) = true := by cases n <;> simp only [okV]
theorem vN {n : Nat} : okV n .non = true := by cases n <;> simp only [okV]
theorem vS {n : Nat} {s : Str} : okV n (.str s) = true ↔ strOk s = true ∧ s.length ≤ 1000 := by cases n <;> simp [okV]
theorem vT {n : Nat} {xs : List D} : okV (n + 1) (.tup xs) = true ↔ ∀ x ∈ xs, okV n x = true := by rw [← okVL_iff]; simp only [okV]
theorem vL {n : Nat} {xs : List D} : okV (n + 1) (.lst xs) = true ↔ ∀ x ∈ xs, okV n x = true := by rw [← okVL_iff]; simp only [okV]
mutual
theorem okV_D : ∀ (n : Nat) (d : D), okV n d = true → okD n d = true := by
  intro n d h
  cases d <;> cases n <;> simp only [okV, Bool.false_eq_true] at h <;> simp only [okD]
  all_goals first
    | exact okVL_D _ _ h
    | (rw [Bool.and_eq_true] at h; exact h.1)
theorem okVL_D : ∀ (n : Nat) (ds : List D), okVL n ds = true → okL n ds = true
  | n, [], _ => by simp [okL]
  | n, x :: xs, h => by
    simp only [okVL, okL, Bool.and_eq_true] at h ⊢
    exact ⟨okV_D n x h.1, okVL_D n xs h.2⟩
end
mutual
theorem okV_up : ∀ (n : Nat) (d : D), okV n d = true → okV (n + 1) d = true := by
  intro n d h
  cases d <;> cases n <;> simp only [okV, Bool.false_eq_true] at h ⊢
  all_goals first
    | exact okVL_up _ _ h
    | exact h
theorem okVL_up : ∀ (n : Nat) (ds : List D), okVL n ds = true → okVL (n + 1) ds = true
  | n, [], _ => by simp [okVL]
  | n, x :: xs, h => by
    simp only [okVL, Bool.and_eq_true] at h ⊢
    exact ⟨okV_up n x h.1, okVL_up n xs h.2⟩
end
theorem okV_le {n m : Nat} {d : D} (h : okV n d = true) (hm : n ≤ m) : okV m d = true := by
  induction hm with
  | refl => exact h
  | step _ ih => exact okV_up _ _ ih

/-! ### types -/
section
variable {b : Bool} {i : Int} {z : Str} {xs : List D}
@[simp] theorem it_i1 : isT "int" .non = some (.bl false) := (rfl)
@[simp] theorem it_i2 : isT "int" (.bl b) = some (.bl true) := (rfl)
@[simp] theorem it_i3 : isT "int" (.int i) = some (.bl true) := (rfl)
@[simp] theorem it_i4 : isT "int" (.str z) = some (.bl false) := (rfl)
@[simp] theorem it_i5 : isT "int" (.tup xs) = some (.bl false) := (rfl)
@[simp] theorem it_i6 : isT "int" (.lst xs) = some (.bl false) := (rfl)
@[simp] theorem it_b1 : isT "bool" .non = some (.bl false) := (rfl)
@[simp] theorem it_b3 : isT "bool" (.int i) = some (.bl false) := (rfl)
@[simp] theorem it_b4 : isT "bool" (.str z) = some (.bl false) := (rfl)
@[simp] theorem it_b5 : isT "bool" (.tup xs) = some (.bl false) := (rfl)
@[simp] theorem it_b6 : isT "bool" (.lst xs) = some (.bl false) := (rfl)
@[simp] theorem it_s1 : isT "str" .non = some (.bl false) := (rfl)
@[simp] theorem it_s2 : isT "str" (.bl b) = some (.bl false) := (rfl)
@[simp] theorem it_s3 : isT "str" (.int i) = some (.bl false) := (rfl)
@[simp] theorem it_s4 : isT "str" (.str z) = some (.bl true) := (rfl)
@[simp] theorem it_s5 : isT "str" (.tup xs) = some (.bl false) := (rfl)
@[simp] theorem it_s6 : isT "str" (.lst xs) = some (.bl false) := (rfl)
@[simp] theorem it_t1 : isT "tuple" .non = some (.bl false) := (rfl)
@[simp] theorem it_t2 : isT "tuple" (.bl b) = some (.bl false) := (rfl)
@[simp] theorem it_t3 : isT "tuple" (.int i) = some (.bl false) := (rfl)
@[simp] theorem it_t4 : isT "tuple" (.str z) = some (.bl false) := (rfl)
@[simp] theorem it_t6 : isT "tuple" (.lst xs) = some (.bl false) := (rfl)
@[simp] theorem it_l1 : isT "list" .non = some (.bl false) := (rfl)
@[simp] theorem it_l2 : isT "list" (.bl b) = some (.bl false) := (rfl)
@[simp] theorem it_l3 : isT "list" (.int i) = some (.bl false) := (rfl)
@[simp] theorem it_l4 : isT "list" (.str z) = some (.bl false) := (rfl)
@[simp] theorem it_l5 : isT "list" (.tup xs) = some (.bl false) := (rfl)
@[simp] theorem it_21 : isT2 "list" "tuple" .non = some (.bl false) := (rfl)
@[simp] theorem it_22 : isT2 "list" "tuple" (.bl b) = some (.bl false) := (rfl)
@[simp] theorem it_23 : isT2 "list" "tuple" (.int i) = some (.bl false) := (rfl)
@[simp] theorem it_24 : isT2 "list" "tuple" (.str z) = some (.bl false) := (rfl)
@[simp] theorem it_25 : isT2 "list" "tuple" (.tup xs) = some (.bl true) := (rfl)
@[simp] theorem it_26 : isT2 "list" "tuple" (.lst xs) = some (.bl true) := (rfl)
@[simp] theorem it_rev1 : gRev (.tup xs) = some (.tup xs.reverse) := (rfl)
@[simp] theorem it_rev2 : gRev (.lst xs) = some (.opn xs.reverse) := (rfl)
@[simp] theorem it_l7 : gList (.tup xs) = some (.opn xs) := (rfl)
@[simp] theorem it_l8 : gList (.lst xs) = some (.opn xs) := (rfl)
@[simp] theorem it_t7 : gTuple (.tup xs) = some (.tup xs) := (rfl)
@[simp] theorem it_t8 : gTuple (.lst xs) = some (.tup xs) := (rfl)
@[simp] theorem it_bo : gBool (.int i) = some (.bl (i != 0)) := (rfl)
end
theorem emp_len {l : List D} : eqL l [] = decide (l = []) := by cases l <;> simp [eqL]
theorem eq_nil {l : List D} (h : okL 11 l = true) : gEq (.lst l) (.lst []) = some (.bl (decide (l = []))) := by
  rw [gEq_eq (by rw [show DEEP = 11 + 1 by decide]; simpa only [okD] using h) (by rfl)]
  simp only [eqD, emp_len]
theorem ne_nil' {l : List D} (h : okL 11 l = true) : gNe (.lst l) (.lst []) = some (.bl !(decide (l = []))) := by
  rw [gNe_eq (by rw [show DEEP = 11 + 1 by decide]; simpa only [okD] using h) (by rfl)]
  simp only [eqD, emp_len]

/-! ### numbers -/
def isI (lo hi : Int) : D → Bool
  | .int i => decide (lo ≤ i) && decide (i ≤ hi)
  | _ => false
theorem noV {n : Nat} {v : D} (h : okV n v = true) : (∀ xs, v ≠ .opn xs) ∧ (∀ xs, v ≠ .scr xs) ∧ (∀ xs, v ≠ .dic xs) ∧ (∀ o c xs, v ≠ .obj o c xs) ∧ ∀ a, v ≠ .adr a := by
  refine ⟨fun xs e => ?_, fun xs e => ?_, fun xs e => ?_, fun o c xs e => ?_, fun xs e => ?_⟩ <;> subst e <;> cases n <;> simp [okV] at h
theorem M_isint {v : D} {lo hi : Int} {n : Nat} (h : okV n v = true) : M_is_integer [v, .int lo, .int hi] = some (.bl (isI lo hi v)) := by
  have hn := noV h
  apply run_rt
  cases v with
  | opn xs => exact absurd rfl (hn.1 xs)
  | scr xs => exact absurd rfl (hn.2.1 xs)
  | dic xs => exact absurd rfl (hn.2.2.1 xs)
  | obj o c xs => exact absurd rfl (hn.2.2.2.1 o c xs)
  | adr a => exact absurd rfl (hn.2.2.2.2 a)
  | int i => by_cases h1 : lo ≤ i <;> simp [B_is_integer, isI, h1]
  | _ => simp [B_is_integer, isI]
theorem M_lisint {v : D} {lo hi : Int} {n : Nat} (h : okV n v = true) : M__law_is_integer [v, .int lo, .int hi] = some (.bl (isI lo hi v)) := M_isint h

/-! ### names -/
def LET : List Nat := ("abcdefghijklmnopqrstuvwxyz" : Str).cps.toList
def isNm : D → Bool
  | .str z => decide (1 ≤ z.length) && decide (z.length ≤ 8) && z.cps.toList.all fun c => decide (c ∈ LET)
  | _ => false
theorem in_let {c : Nat} : gIn (.str ⟨#[c]⟩) (.str "abcdefghijklmnopqrstuvwxyz") = some (.bl (decide (c ∈ LET))) := (rfl)
theorem nin_let {c : Nat} : gNotIn (.str ⟨#[c]⟩) (.str "abcdefghijklmnopqrstuvwxyz") = some (.bl !(decide (c ∈ LET))) := (rfl)
theorem len_str {z : Str} (h : z.length ≤ 1000) : gLen (.str z) = some (.int (z.length : Nat)) := by
  have : small z.length = true := small_le' (by omega)
  simp only [gLen, this, if_true]
theorem chars_len {z : Str} : (chars z).length = z.length := by simp [chars, Str.length]
theorem all_chars {v : D} {z : Str} : compGo (tName 1) cYes (b2 gIn (fVarW 1) (fC (.str "abcdefghijklmnopqrstuvwxyz"))) [some v, none] (chars z) = some ((z.cps.toList.map fun c => decide (c ∈ LET)).map .bl) := by
  unfold chars
  rw [compGo_typed (fun c : Nat => D.str ⟨#[c]⟩) (fun c => [some v, some (.str ⟨#[c]⟩)]) (fun _ => true) (fun c => .bl (decide (c ∈ LET))) z.cps.toList (fun _ _ => rfl) (fun _ _ => rfl) (fun c _ _ => by simp [in_let])]
  rw [show z.cps.toList.filter (fun _ => true) = z.cps.toList by simp, List.map_map]
  rfl
theorem M_isname {v : D} {n : Nat} (h : okV n v = true) : M_is_name [v] = some (.bl (isNm v)) := by
  have hn := noV h
  apply run_rt
  cases v with
  | opn xs => exact absurd rfl (hn.1 xs)
  | scr xs => exact absurd rfl (hn.2.1 xs)
  | dic xs => exact absurd rfl (hn.2.2.1 xs)
  | obj o c xs => exact absurd rfl (hn.2.2.2.1 o c xs)
  | adr a => exact absurd rfl (hn.2.2.2.2 a)
  | str z =>
    have h1 := (vS.mp h).2
    have hsm : small (chars z).length = true := small_le' (by rw [chars_len]; omega)
    have hc := all_chars (v := .str z) (z := z)
    by_cases h2 : (1 : Int) ≤ (z.length : Nat)
    · by_cases h3 : ((z.length : Nat) : Int) ≤ 8
      · have e1 : 1 ≤ z.length := by omega
        have e2 : z.length ≤ 8 := by omega
        simp [B_is_name, isNm, len_str h1, h2, h3, e1, e2, hsm, wipeR, hc, gAll, boolsOf_map, -List.map_map, asSeq]
        try simp [List.all_map, Function.comp_def]
      · have e2 : ¬ z.length ≤ 8 := by omega
        simp [B_is_name, isNm, len_str h1, h2, h3, e2]
    · have e1 : ¬ 1 ≤ z.length := by omega
      simp [B_is_name, isNm, len_str h1, h2, e1]
  | _ => simp [B_is_name, isNm]

/-! ### items -/
theorem lenT {xs : List D} : gLen (.tup xs) = some (.int (xs.length : Nat)) := (rfl)
def isIt : D → Bool
  | .tup [.str a] => decide (a = "break")
  | .tup [.str a, y] => if a = "text" then isI 0 1000000 y else (decide (a = "mark") || decide (a = "ref")) && isNm y
  | _ => false
theorem eq_strs {a b : Str} (h1 : strOk a = true) (h2 : strOk b = true) : gEq (.str a) (.str b) = some (.bl (decide (a = b))) := by
  rw [gEq_eq (by rw [okS]; exact h1) (by rw [okS]; exact h2), eqD_str]
theorem in_mr {a : Str} (h : strOk a = true) : gIn (.str a) (.tup [.str "mark", .str "ref"]) = some (.bl (decide (a = "mark") || decide (a = "ref"))) := by
  have h1 : okD DEEP (.str a) = true := by rw [okS]; exact h
  have h2 : okD DEEP (.tup [.str "mark", .str "ref"]) = true := by decide +kernel
  have : inD (.str a) (.tup [.str "mark", .str "ref"]) = some (anyD (.str a) [.str "mark", .str "ref"]) := by
    simp only [inD, h1, h2, Bool.and_self, if_true]
  simp only [gIn, this, Option.map_some, anyD, eqD_str, Bool.or_false]
  have c1 : ∀ x y : Str, decide (x = y) = decide (y = x) := fun x y => by rw [Bool.eq_iff_iff]; simp [eq_comm]
  rw [c1 "mark" a, c1 "ref" a]
theorem nin_mr {a : Str} (h : strOk a = true) : gNotIn (.str a) (.tup [.str "mark", .str "ref"]) = some (.bl !(decide (a = "mark") || decide (a = "ref"))) := by
  have := in_mr h
  simp only [gIn, gNotIn, Option.map_eq_some_iff] at this ⊢
  obtain ⟨b, h1, h2⟩ := this
  exact ⟨b, h1, by cases h2; rfl⟩
theorem M_isitem {v : D} {n : Nat} (h : okV n v = true) : M_is_item [v] = some (.bl (isIt v)) := by
  have hn := noV h
  apply run_rt
  cases v with
  | opn xs => exact absurd rfl (hn.1 xs)
  | scr xs => exact absurd rfl (hn.2.1 xs)
  | dic xs => exact absurd rfl (hn.2.2.1 xs)
  | obj o c xs => exact absurd rfl (hn.2.2.2.1 o c xs)
  | adr a => exact absurd rfl (hn.2.2.2.2 a)
  | tup xs =>
    cases n with
    | zero => simp [okV] at h
    | succ n =>
      rw [vT] at h
      match xs, h with
      | [], _ => simp [B_is_item, isIt, gLen]
      | [x], h =>
        have hx := h x (by simp)
        have hnx := noV hx
        have i0 : gIdx (.tup [x]) (.int 0) = some x := rfl
        cases x with
        | opn xs => exact absurd rfl (hnx.1 xs)
        | scr xs => exact absurd rfl (hnx.2.1 xs)
        | dic xs => exact absurd rfl (hnx.2.2.1 xs)
        | obj o c xs => exact absurd rfl (hnx.2.2.2.1 o c xs)
        | adr a => exact absurd rfl (hnx.2.2.2.2 a)
        | str a => simp [B_is_item, isIt, lenT, i0, eq_strs (vS.mp hx).1 s_break]
        | _ => simp [B_is_item, isIt, lenT, i0]
      | [x, y], h =>
        have hx := h x (by simp)
        have hy := h y (by simp)
        have hnx := noV hx
        have i0 : gIdx (.tup [x, y]) (.int 0) = some x := rfl
        have i1 : gIdx (.tup [x, y]) (.int 1) = some y := rfl
        have e1 := M_isint (lo := 0) (hi := 1000000) hy
        have e2 := M_isname hy
        cases x with
        | opn xs => exact absurd rfl (hnx.1 xs)
        | scr xs => exact absurd rfl (hnx.2.1 xs)
        | dic xs => exact absurd rfl (hnx.2.2.1 xs)
        | obj o c xs => exact absurd rfl (hnx.2.2.2.1 o c xs)
        | adr a => exact absurd rfl (hnx.2.2.2.2 a)
        | str a =>
          have hs := (vS.mp hx).1
          by_cases ht : a = "text"
          · subst ht
            have j0 : gIdx (.tup [.str "text", y]) (.int 0) = some (.str "text") := rfl
            have j1 : gIdx (.tup [.str "text", y]) (.int 1) = some y := rfl
            simp [B_is_item, isIt, lenT, j0, j1, eq_strs s_text s_text, e1]
          · by_cases hm : (decide (a = "mark") || decide (a = "ref")) = true
            · simp [B_is_item, isIt, lenT, i0, i1, eq_strs hs s_text, ht, e2, in_mr hs, hm]
            · have hm : (decide (a = "mark") || decide (a = "ref")) = false := by simpa using hm
              simp [B_is_item, isIt, lenT, i0, i1, eq_strs hs s_text, ht, e2, in_mr hs, hm]
        | _ => simp [B_is_item, isIt, lenT, i0]
      | x :: y :: z :: r, h =>
        have : ¬ ((r.length : Int) + 1 + 1 + 1 ≤ 2) := by omega
        have e0 : (1 : Int) ≤ (r.length : Int) + 1 + 1 + 1 := by omega
        simp [B_is_item, isIt, lenT, this, e0]
  | _ => simp [B_is_item, isIt]
theorem bad_chars {v : D} {z : Str} : compGo (tName 1) (tb (b2 gNotIn (fVarW 1) (fC (.str "abcdefghijklmnopqrstuvwxyz")))) (fVar 1) [some v, none] (chars z) = some ((z.cps.toList.filter fun c => !decide (c ∈ LET)).map fun c => .str ⟨#[c]⟩) := by
  unfold chars
  rw [compGo_typed (fun c : Nat => D.str ⟨#[c]⟩) (fun c => [some v, some (.str ⟨#[c]⟩)]) (fun c => !decide (c ∈ LET)) (fun c => .str ⟨#[c]⟩) z.cps.toList (fun _ _ => rfl) (fun c _ => by simp [nin_let]) (fun c _ _ => by simp)]
theorem ok_chars {z : Str} (h : strOk z = true) {p : Nat → Bool} : okL 11 ((z.cps.toList.filter p).map fun c => D.str ⟨#[c]⟩) = true := by
  rw [okL_iff]
  intro x hx
  obtain ⟨c, hc, rfl⟩ := List.mem_map.mp hx
  rw [okS]
  unfold strOk at h ⊢
  have hc' := (List.mem_filter.mp hc).1
  rw [Array.all_eq_true] at h
  obtain ⟨i, hi, e⟩ := List.getElem_of_mem hc'
  have := h i (by simpa using hi)
  simp at e
  simp [← e]
  simpa using this
end PL
/-! ### part PU23 -/
namespace PL
open PySem L2 PLaw

/-! ### documents: the program's test and the law's -/
theorem it_of {n : Nat} {x : D} (hv : okV n x = true) (h : isIt x = true) : ∃ it : Item, x = itemD it ∧ strOk it.name = true := by
  match x, h with
  | .tup [.str a], h =>
    have : a = "break" := by simpa [isIt] using h
    subst this
    exact ⟨.brk, rfl, s_break⟩
  | .tup [.str a, y], h =>
    cases n with
    | zero => simp [okV] at hv
    | succ n =>
    rw [vT] at hv
    have hy := hv y (by simp)
    by_cases ht : a = "text"
    · subst ht
      simp only [isIt, if_true] at h
      cases y with
      | int i => exact ⟨.text i, rfl, s_break⟩
      | _ => simp [isI] at h
    · simp only [isIt, ht, if_false, Bool.and_eq_true, Bool.or_eq_true, decide_eq_true_eq] at h
      obtain ⟨h1, h2⟩ := h
      cases y with
      | str z =>
        have hz := (vS.mp hy).1
        rcases h1 with rfl | rfl
        · exact ⟨.mark z, rfl, hz⟩
        · exact ⟨.ref z, rfl, hz⟩
      | _ => simp [isNm] at h2
theorem items_of {n : Nat} : ∀ {xs : List D}, (∀ x ∈ xs, okV n x = true) → (∀ x ∈ xs, isIt x = true) → ∃ d : Doc, xs = d.map itemD ∧ ∀ it ∈ d, strOk it.name = true
  | [], _, _ => ⟨[], rfl, by simp⟩
  | x :: xs, hv, h => by
    obtain ⟨it, rfl, h1⟩ := it_of (hv x (by simp)) (h x (by simp))
    obtain ⟨d, rfl, h2⟩ := items_of (xs := xs) (fun y hy => hv y (by simp [hy])) (fun y hy => h y (by simp [hy]))
    exact ⟨it :: d, rfl, fun i hi => by rcases List.mem_cons.mp hi with rfl | hi; exact h1; exact h2 i hi⟩
theorem no_V {n : Nat} {x : D} (h : okV n x = true) : noOpn x = some x ∧ frzD x = x := by
  have hn := noV h
  cases x with
  | opn xs => exact absurd rfl (hn.1 xs)
  | obj o c xs => exact absurd rfl (hn.2.2.2.1 o c xs)
  | adr a => exact absurd rfl (hn.2.2.2.2 a)
  | _ => exact ⟨rfl, rfl⟩
theorem any_strs {s : Str} : ∀ ns : List Str, anyD (.str s) (ns.map .str) = decide (s ∈ ns)
  | [] => rfl
  | x :: ns => by
    simp only [List.map_cons, anyD, eqD_str, any_strs ns, List.mem_cons]
    rw [Bool.eq_iff_iff]
    simp only [Bool.or_eq_true, decide_eq_true_eq]
    constructor
    · rintro (h | h)
      · exact .inl h.symm
      · exact .inr h
    · rintro (h | h)
      · exact .inl h.symm
      · exact .inr h
theorem in_strs {s : Str} {ns : List Str} (hs : strOk s = true) (hn : ∀ x ∈ ns, strOk x = true) : gIn (.str s) (.lst (ns.map .str)) = some (.bl (decide (s ∈ ns))) := by
  have h1 : okD DEEP (.str s) = true := by rw [okS]; exact hs
  have h2 : okD DEEP (.lst (ns.map .str)) = true := by
    rw [show DEEP = (DEEP - 1) + 1 by decide, okLs]
    intro x hx
    obtain ⟨y, hy, rfl⟩ := List.mem_map.mp hx
    rw [okS]; exact hn y hy
  have : inD (.str s) (.lst (ns.map .str)) = some (anyD (.str s) (ns.map .str)) := by
    simp only [inD, h1, h2, Bool.and_self, if_true]
  simp only [gIn, this, Option.map_some, any_strs]
theorem nin_strs {s : Str} {ns : List Str} (hs : strOk s = true) (hn : ∀ x ∈ ns, strOk x = true) : gNotIn (.str s) (.lst (ns.map .str)) = some (.bl !(decide (s ∈ ns))) := by
  have := in_strs hs hn
  simp only [gIn, gNotIn, Option.map_eq_some_iff] at this ⊢
  obtain ⟨b, h1, h2⟩ := this
  exact ⟨b, h1, by cases h2; rfl⟩
theorem namesOk {d : Doc} (h : ∀ it ∈ d, strOk it.name = true) : ∀ s ∈ names d, strOk s = true := fun s hs => by
  unfold names at hs
  obtain ⟨it, hi, rfl⟩ := List.mem_map.mp hs
  exact h it (List.mem_filter.mp hi).1
theorem adj_nodup : ∀ l : List Str, l.Pairwise (fun a b => leS a b = true) → ((l.zip (l.drop 1)).filter (fun p => decide (p.1 = p.2)) = [] ↔ l.Nodup)
  | [], _ => by simp
  | [x], _ => by simp
  | x :: y :: r, h => by
    have ih := adj_nodup (y :: r) (List.pairwise_cons.mp h).2
    have hx := (List.pairwise_cons.mp h).1
    have hy := (List.pairwise_cons.mp (List.pairwise_cons.mp h).2).1
    simp only [List.drop_succ_cons, List.drop_zero, List.zip_cons_cons] at ih ⊢
    rw [List.nodup_cons, ← ih]
    by_cases e : x = y
    · subst e
      simp
    · simp only [List.filter_cons, e, decide_false, Bool.false_eq_true, if_false]
      constructor
      · intro h1
        refine ⟨fun hm => ?_, h1⟩
        rcases List.mem_cons.mp hm with rfl | hm
        · exact e rfl
        · exact e (leS_anti (hx y (by simp)) (hy x hm))
      · exact fun h1 => h1.2
/-- a document of items -/
def docB (d : Doc) : Bool := decide ((names d).length ≤ 8) && decide (names d).Nodup && (d.filter Item.isRef).all fun it => decide (it.name ∈ names d)
theorem M_isdoc {d : Doc} (h1 : 1 ≤ d.length) (h2 : d.length ≤ 30) (hs : ∀ it ∈ d, strOk it.name = true) (hit : ∀ it ∈ d, M_is_item [itemD it] = some (.bl true)) : M_is_document [docD d] = some (.bl (docB d)) := by
  have hsm : small d.length = true := small_le' (by omega)
  have c0 : compGo (tName 1) cYes (fz (fCall 1 M_is_item (fsCons (fVar 1) fsNil))) [some (docD d), none, none] (d.map itemD) = some ((d.map fun _ => true).map .bl) := by
    rw [compGo_typed itemD (fun x => [some (docD d), some (itemD x), none]) (fun _ => true) (fun x => .bl true) d (fun _ _ => rfl) (fun _ _ => rfl) (fun x hx _ => by simp [hit x hx])]
    rw [show d.filter (fun _ => true) = d by simp, List.map_map]
    rfl
  have hn := M_names (d := d) (by omega)
  have hno := namesOk hs
  have hnl := names_len d
  have cle := SetTxt.cntT_le (names d) (names d).length
  have cnd := SetTxt.cntT_nodup (names d) (names d).length (Nat.le_refl _)
  rw [List.take_length] at cnd
  have hls : gLenSet (.lst ((names d).map .str)) = some (.int (SetTxt.cntT (names d) (names d).length : Nat)) := by
    have : (names d).length ≤ 3000 := by omega
    simp only [gLenSet, strsOf_map, Option.bind_some, this, if_true]
  have c1 : compGo (tName 1) (tb (b2 gEq (b2 gIdx (fVarW 1) (fC (.int 0))) (fC (.str "ref")))) (b2 gIn (b2 gIdx (fVarW 1) (fC (.int 1))) (fVarW 2)) [some (docD d), none, some (.lst ((names d).map .str))] (d.map itemD) = some (((d.filter Item.isRef).map fun it => decide (it.name ∈ names d)).map .bl) := by
    rw [compGo_typed itemD (fun x => [some (docD d), some (itemD x), some (.lst ((names d).map .str))]) Item.isRef (fun x => .bl (decide (x.name ∈ names d))) d (fun _ _ => rfl) (fun x _ => by simp) (fun x hx hp => by
      cases x <;> simp [Item.isRef] at hp
      rename_i s
      have := in_strs (s := s) (hs _ hx) hno
      simp [Item.name, this]
      try exact decide_eq_decide.mpr Iff.rfl)]
    rw [List.map_map]; rfl
  have g1 : (1 : Int) ≤ (d.length : Nat) := by omega
  have g2 : ((d.length : Nat) : Int) ≤ 30 := by omega
  have hlD : gLen (docD d) = some (.int (d.length : Nat)) := by simp [docD, lenT]
  have hlN : gLen (.lst ((names d).map .str)) = some (.int ((names d).length : Nat)) := by simp [gLen]
  have ht : isT "tuple" (docD d) = some (.bl true) := rfl
  have hb : boolsOf ((d.map fun _ => true).map D.bl) = some (d.map fun _ => true) := boolsOf_map _
  have hall : (d.map fun _ => true).all id = true := by simp
  generalize SetTxt.cntT (names d) (names d).length = c at *
  apply run_rt
  simp only [B_is_document]
  by_cases q1 : (8 : Int) < ((names d).length : Nat)
  · have q2 : ¬ (names d).length ≤ 8 := by omega
    simp [hlD, ht, g1, g2, hsm, wipeR, c0, gAll, hb, hall, hn, hlN, q1, docB, q2, -List.map_map]
  · have q2 : (names d).length ≤ 8 := by omega
    by_cases q3 : ((c : Nat) : Int) < ((names d).length : Nat)
    · have q4 : ¬ (names d).Nodup := fun z => by have := cnd.mpr z; omega
      simp [hlD, ht, g1, g2, hsm, wipeR, c0, gAll, hb, hall, hn, hlN, q1, docB, q2, hls, q3, q4, -List.map_map]
    · have q4 : (names d).Nodup := cnd.mp (by omega)
      simp [hlD, ht, g1, g2, hsm, wipeR, c0, gAll, hb, hall, hn, hlN, q1, docB, q2, hls, q3, q4, c1, boolsOf_map, -List.map_map, -List.map_const', -List.all_map, -List.all_filter]
      try simp [List.all_map, Function.comp_def]
end PL
/-! ### part PT9 -/
namespace PL
open PySem L2 PLaw

/-! ### iterates -/
def itr (F : List Int → List Int) : Nat → List Int → List Int
  | 0, ν => ν
  | n + 1, ν => F (itr F n ν)
theorem itr_add (F : List Int → List Int) : ∀ (a b : Nat) (ν : List Int), itr F (a + b) ν = itr F a (itr F b ν)
  | 0, b, ν => by simp [itr]
  | a + 1, b, ν => by rw [Nat.succ_add]; simp [itr, itr_add F a b ν]
def orbL (F : List Int → List Int) (ν : List Int) (m : Nat) : List (List Int) := (List.range m).map fun i => itr F i ν
theorem orbL_succ (F : List Int → List Int) (ν : List Int) (m : Nat) : orbL F ν (m + 1) = orbL F ν m ++ [itr F m ν] := by
  unfold orbL; rw [List.range_succ, List.map_append]; rfl
theorem orbL_len (F : List Int → List Int) (ν : List Int) (m : Nat) : (orbL F ν m).length = m := by unfold orbL; simp
theorem orbL_mem {F : List Int → List Int} {ν : List Int} {m : Nat} {x : List Int} : x ∈ orbL F ν m ↔ ∃ j, j < m ∧ itr F j ν = x := by
  unfold orbL; simp
theorem orbL_get {F : List Int → List Int} {ν : List Int} {m j : Nat} (h : j < m) : (orbL F ν m)[j]? = some (itr F j ν) := by
  unfold orbL
  rw [List.getElem?_map, List.getElem?_range h]; rfl
theorem orbL_at {F : List Int → List Int} {ν : List Int} {m a : Nat} (h : a < (orbL F ν m).length) : (orbL F ν m)[a] = itr F a ν := by
  have h2 : a < m := by rw [orbL_len] at h; exact h
  have := orbL_get (F := F) (ν := ν) h2
  rw [List.getElem?_eq_getElem h] at this
  exact Option.some.inj this
/-- m runs before the one that occurred before, at j -/
structure Runs (F : List Int → List Int) (ν : List Int) (m j : Nat) : Prop where
  lt : j < m
  nd : (orbL F ν m).Nodup
  rep : itr F m ν = itr F j ν
theorem Runs.inj {F : List Int → List Int} {ν : List Int} {m j a b : Nat} (h : Runs F ν m j) (ha : a < m) (hb : b < m) (e : itr F a ν = itr F b ν) : a = b := by
  have hn := h.nd
  rcases Nat.lt_trichotomy a b with z | z | z
  · exfalso
    have := List.pairwise_iff_getElem.mp hn a b (by rw [orbL_len]; exact ha) (by rw [orbL_len]; exact hb) z
    rw [orbL_at, orbL_at] at this
    exact this e
  · exact z
  · exfalso
    have := List.pairwise_iff_getElem.mp hn b a (by rw [orbL_len]; exact hb) (by rw [orbL_len]; exact ha) z
    rw [orbL_at, orbL_at] at this
    exact this e.symm
theorem nodup_len {α : Type} [DecidableEq α] : ∀ {l L : List α}, l.Nodup → (∀ x ∈ l, x ∈ L) → l.length ≤ L.length
  | [], L, _, _ => Nat.zero_le _
  | x :: l, L, h, k => by
    rw [List.nodup_cons] at h
    have hx := k x (by simp)
    have ih := nodup_len (l := l) (L := L.erase x) h.2 fun y hy => (List.mem_erase_of_ne (fun e => h.1 (by rw [← e]; exact hy))).mpr (k y (by simp [hy]))
    rw [List.length_erase_of_mem hx] at ih
    have := List.length_pos_of_mem hx
    simp only [List.length_cons]
    omega
theorem runs_or (F : List Int → List Int) (ν : List Int) : ∀ n, (∃ m j, m < n ∧ Runs F ν m j) ∨ (orbL F ν n).Nodup
  | 0 => .inr (by simp [orbL])
  | n + 1 => by
    rcases runs_or F ν n with ⟨m, j, h1, h2⟩ | h
    · exact .inl ⟨m, j, by omega, h2⟩
    · by_cases hm : itr F n ν ∈ orbL F ν n
      · obtain ⟨j, h1, h2⟩ := orbL_mem.mp hm
        exact .inl ⟨n, j, by omega, h1, h, h2.symm⟩
      · right
        rw [orbL_succ, List.nodup_append]
        exact ⟨h, by simp, fun x hx y hy e => by simp at hy; subst hy; subst e; exact hm hx⟩
theorem runs_ex {F : List Int → List Int} {ν : List Int} {L : List (List Int)} (h : ∀ i, itr F (i + 2) ν ∈ L) : ∃ m j, m ≤ L.length + 2 ∧ Runs F ν m j := by
  rcases runs_or F ν (L.length + 3) with ⟨m, j, h1, h2⟩ | hn
  · exact ⟨m, j, by omega, h2⟩
  · exfalso
    have h1 : ((orbL F ν (L.length + 3)).drop 2).Nodup := hn.sublist (List.drop_sublist _ _)
    have h2 := nodup_len h1 (L := L) fun x hx => by
      obtain ⟨i, hi, e⟩ := List.mem_iff_getElem.mp hx
      rw [List.getElem_drop, orbL_at] at e
      rw [← e, Nat.add_comm]
      exact h i
    rw [List.length_drop, orbL_len] at h2
    omega
theorem runs_uniq {F : List Int → List Int} {ν : List Int} {m j m' j' : Nat} (h : Runs F ν m j) (h' : Runs F ν m' j') : m = m' ∧ j = j' := by
  have le : ∀ {m j m' j' : Nat}, Runs F ν m j → Runs F ν m' j' → m' ≤ m := fun {m j m' j'} h h' => by
    by_cases hlt : m < m'
    · have := h'.inj hlt (Nat.lt_trans h.lt hlt) h.rep
      have := h.lt
      omega
    · omega
  have e : m = m' := Nat.le_antisymm (le h' h) (le h h')
  subst e
  exact ⟨rfl, h.inj h.lt h'.lt (h.rep.symm.trans h'.rep)⟩
/-- the iterates come to rest at t -/
structure Conv (F : List Int → List Int) (ν : List Int) (t : Nat) : Prop where
  fix : F (itr F t ν) = itr F t ν
  first : ∀ i, i < t → itr F i ν ≠ itr F t ν
theorem Conv.runs {F : List Int → List Int} {ν : List Int} {t : Nat} (h : Conv F ν t) : Runs F ν (t + 1) t := by
  refine ⟨Nat.lt_succ_self t, ?_, h.fix⟩
  have key : ∀ a b, a < b → b ≤ t → itr F a ν ≠ itr F b ν := fun a b hab hbt e => by
    refine h.first (t - b + a) (by omega) ?_
    rw [itr_add, e, ← itr_add]
    congr 1; omega
  refine List.pairwise_iff_getElem.mpr fun a b ha hb hab => ?_
  rw [orbL_at, orbL_at]
  rw [orbL_len] at hb
  exact key a b hab (by omega)
theorem Runs.conv {F : List Int → List Int} {ν : List Int} {m j : Nat} (h : Runs F ν m j) (e : m = j + 1) : Conv F ν j := by
  subst e
  exact ⟨h.rep, fun i hi he => by have := h.inj (a := i) (b := j) (by omega) (by omega) he; omega⟩
theorem Conv.stay {F : List Int → List Int} {ν : List Int} {t : Nat} (h : Conv F ν t) : ∀ i, itr F (i + t) ν = itr F t ν
  | 0 => by simp
  | i + 1 => by rw [Nat.succ_add]; simp only [itr]; rw [h.stay i, h.fix]
/-- steps that rise, or fall, come to rest -/
theorem Runs.of_chain {F : List Int → List Int} {ν : List Int} {m j : Nat} (R : List Int → List Int → Prop) (tr : ∀ a b c, R a b → R b c → R a c) (as : ∀ a b, R a b → R b a → a = b) (h : Runs F ν m j) (hc : ∀ i, R (itr F i ν) (itr F (i + 1) ν)) : Conv F ν j := by
  refine h.conv ?_
  have up : ∀ a k, R (itr F (a + 1) ν) (itr F (a + 1 + k) ν) ∨ k = 0 := fun a k => by
    induction k with
    | zero => exact .inr rfl
    | succ k ih =>
      left
      rcases ih with ih | ih
      · exact tr _ _ _ ih (hc _)
      · subst ih; exact hc _
  by_cases e : m = j + 1
  · exact e
  · exfalso
    have hlt := h.lt
    obtain ⟨k, hk⟩ : ∃ k, m = j + 1 + k := ⟨m - (j + 1), by omega⟩
    have h1 : R (itr F (j + 1) ν) (itr F j ν) := by
      rcases up j k with u | u
      · rw [← hk, h.rep] at u; exact u
      · omega
    have h2 := as _ _ (hc j) h1
    have := h.inj (a := j) (b := j + 1) hlt (by omega) h2
    omega

/-! ### runs in the program -/
theorem eqD_num {a b : List Int} : eqD (numD a) (numD b) = decide (a = b) := by simp [numD, eqD, eqL_int]
theorem any_num {x : List Int} : ∀ {l : List (List Int)}, anyD (numD x) (l.map numD) = decide (x ∈ l)
  | [] => rfl
  | y :: l => by
    simp only [List.map_cons, anyD, eqD_num, any_num (l := l), List.mem_cons]
    by_cases h1 : y = x
    · subst h1; simp
    · have h2 : ¬ x = y := fun e => h1 e.symm
      simp [h1, h2]
theorem ok_numn {ν : List Int} {n : Nat} : okD (n + 1) (numD ν) = true := by
  rw [numD, okT]
  intro x hx
  obtain ⟨y, hy, rfl⟩ := List.mem_map.mp hx
  exact okI
theorem ok_nums {l : List (List Int)} : okD DEEP (.lst (l.map numD)) = true := by
  rw [show DEEP = ((DEEP - 2) + 1) + 1 by decide, okLs]
  intro x hx
  obtain ⟨y, hy, rfl⟩ := List.mem_map.mp hx
  exact ok_numn
@[simp] theorem in_nums {x : List Int} {l : List (List Int)} : gIn (numD x) (.lst (l.map numD)) = some (.bl (decide (x ∈ l))) := by
  simp [gIn, inD, ok_num, ok_nums, any_num]
@[simp] theorem notin_nums {x : List Int} {l : List (List Int)} : gNotIn (numD x) (.lst (l.map numD)) = some (.bl !(decide (x ∈ l))) := by
  simp [gNotIn, inD, ok_num, ok_nums, any_num]
theorem eqL_nums : ∀ {l m : List (List Int)}, eqL (l.map numD) (m.map numD) = decide (l = m)
  | [], [] => rfl
  | [], _ :: _ => rfl
  | _ :: _, [] => rfl
  | x :: l, y :: m => by simp [eqL, eqD_num, eqL_nums (l := l) (m := m)]
@[simp] theorem eq_nums {l m : List (List Int)} : gEq (.lst (l.map numD)) (.lst (m.map numD)) = some (.bl (decide (l = m))) := by
  rw [gEq_eq ok_nums ok_nums]; simp [eqD, eqL_nums]
@[simp] theorem ne_nums {l m : List (List Int)} : gNe (.lst (l.map numD)) (.lst (m.map numD)) = some (.bl !(decide (l = m))) := by
  rw [gNe_eq ok_nums ok_nums]; simp [eqD, eqL_nums]
theorem hGo_mono {c : Rho → Option Bool} {b : GFl} {r : Rho × List D} : ∀ {n m : Nat} {ρ : Rho} {ds : List D}, hWhileGo c b n ρ ds = some r → n ≤ m → hWhileGo c b m ρ ds = some r
  | 0, _, _, _, h, _ => by simp [hWhileGo] at h
  | n + 1, 0, _, _, _, hm => by omega
  | n + 1, m + 1, ρ, ds, h, hm => by
    simp only [hWhileGo] at h ⊢
    cases hc : c ρ with
    | none => rw [hc] at h; simp at h
    | some k =>
      rw [hc] at h
      simp only [Option.bind_some] at h ⊢
      cases k with
      | false => simpa using h
      | true =>
        simp only [if_true] at h ⊢
        cases hb : b ρ ds with
        | none => rw [hb] at h; simp at h
        | some p =>
          rw [hb] at h
          simp only [Option.bind_some] at h ⊢
          exact hGo_mono h (by omega)
/-- every iterate is a numbering -/
theorem itr_ok {d : Doc} {size : Int} {ν : List Int} (hd : WF d) (hs : SizeOk size) (hν : NumOk (names d).length ν) : ∀ i, NumOk (names d).length (itr (pagesT d size) i ν)
  | 0 => hν
  | i + 1 => (pages_ok hd (itr_ok hd hs hν i) hs).1
theorem runs_loop {d : Doc} {size : Int} {ν : List Int} {m j : Nat} {st : Option D} (hd : WF d) (hs : SizeOk size) (hν : NumOk (names d).length ν) (h : Runs (pagesT d size) ν m j) (hm : m ≤ 1000000) : ∀ (k i : Nat), i + k = m → ∃ ρ',
    hWhileGo (tb (b2 gNotIn (fVarW 4) (fVarW 3))) L_runs_0 (k + 1) [some (docD d), some (.int size), st, some (.opn ((orbL (pagesT d size) ν i).map numD)), some (numD (itr (pagesT d size) i ν))] ((orbL (pagesT d size) ν i).map numD) =
      some (ρ', (orbL (pagesT d size) ν m).map numD)
  | 0, i, hi => by
    have hi : i = m := by omega
    subst hi
    have hin : itr (pagesT d size) i ν ∈ orbL (pagesT d size) ν i := orbL_mem.mpr ⟨j, h.lt, h.rep.symm⟩
    refine ⟨[some (docD d), some (.int size), st, some (.opn ((orbL (pagesT d size) ν i).map numD)), some (numD (itr (pagesT d size) i ν))], ?_⟩
    simp only [hWhileGo]
    simp [hin]
  | k + 1, i, hi => by
    obtain ⟨ρ', ih⟩ := runs_loop (st := st) hd hs hν h hm k (i + 1) (by omega)
    refine ⟨ρ', ?_⟩
    have hout : ¬ itr (pagesT d size) i ν ∈ orbL (pagesT d size) ν i := fun hin => by
      obtain ⟨a, h1, h2⟩ := orbL_mem.mp hin
      have := h.inj (a := a) (b := i) (by omega) (by omega) h2
      omega
    have hp := M_pages_eq hd (itr_ok hd hs hν i) hs
    have hl : (orbL (pagesT d size) ν i).length < 16777216 := by rw [orbL_len]; omega
    have hl2 : small ((orbL (pagesT d size) ν i).length + 1) = true := small_le' (by rw [orbL_len]; omega)
    rw [orbL_succ] at ih
    have e : itr (pagesT d size) (i + 1) ν = pagesT d size (itr (pagesT d size) i ν) := rfl
    rw [e] at ih
    have hb : L_runs_0 [some (docD d), some (.int size), st, some (.opn ((orbL (pagesT d size) ν i).map numD)), some (numD (itr (pagesT d size) i ν))] ((orbL (pagesT d size) ν i).map numD) =
        some ([some (docD d), some (.int size), st, some (.opn ((orbL (pagesT d size) ν i ++ [itr (pagesT d size) i ν]).map numD)), some (numD (pagesT d size (itr (pagesT d size) i ν)))], (orbL (pagesT d size) ν i ++ [itr (pagesT d size) i ν]).map numD) := by
      simp [L_runs_0, hSeq, hPl, hYield, hNil, hl, hl2, hp]
    have hc : (tb (b2 gNotIn (fVarW 4) (fVarW 3))) [some (docD d), some (.int size), st, some (.opn ((orbL (pagesT d size) ν i).map numD)), some (numD (itr (pagesT d size) i ν))] = some true := by simp [hout]
    simp only [hWhileGo] at ih ⊢
    rw [hc, Option.bind_some, if_pos rfl, hb, Option.bind_some]
    exact ih
theorem G_runs_eq {d : Doc} {size : Int} {ν : List Int} {m j : Nat} (hd : WF d) (hs : SizeOk size) (hν : NumOk (names d).length ν) (h : Runs (pagesT d size) ν m j) (hm : m ≤ 1000000) : G_runs [docD d, .int size, numD ν] = some ((orbL (pagesT d size) ν m).map numD) := by
  obtain ⟨ρ', hl⟩ := runs_loop (st := some (numD ν)) hd hs hν h hm m 0 (by omega)
  have hl2 := hGo_mono hl (m := FU) (by unfold FU; omega)
  have e0 : orbL (pagesT d size) ν 0 = [] := rfl
  rw [e0] at hl2
  simp only [itr, List.map_nil] at hl2
  unfold G_runs runG
  simp [B_runs, hSeq, hPl, hNil, hWhile, hl2]
theorem idx_num {x : List Int} : ∀ {l : List (List Int)} {j : Nat}, l.Nodup → l[j]? = some x → idxD (numD x) (l.map numD) = some j
  | [], j, _, h => by simp at h
  | y :: l, 0, _, h => by simp at h; subst h; simp [idxD, eqD_num]
  | y :: l, j + 1, hn, h => by
    rw [List.nodup_cons] at hn
    have hx : l[j]? = some x := by simpa using h
    have hne : y ≠ x := fun e => hn.1 (e ▸ List.mem_of_getElem? hx)
    simp [idxD, eqD_num, hne, idx_num hn.2 hx]
theorem atI_last {α : Type} {xs : List α} {n : Nat} {x : α} (hl : xs.length = n + 1) (h : xs[n]? = some x) : atI xs (-1) = some x := by
  unfold atI ixN
  rw [if_neg (by omega), if_pos (by omega), Option.bind_some]
  have : ((-1 : Int) + (xs.length : Int)).toNat = n := by omega
  rw [this]; exact h
theorem M_ending_eq {d : Doc} {size : Int} {ν : List Int} {m j : Nat} (hd : WF d) (hs : SizeOk size) (hν : NumOk (names d).length ν) (h : Runs (pagesT d size) ν m j) (hm : m ≤ 1000000) : M_ending [docD d, .int size, numD ν] = some (.tup [.int (j : Nat), .int ((m : Int) - (j : Nat))]) := by
  have hg := G_runs_eq hd hs hν h hm
  have hlt := h.lt
  obtain ⟨n, rfl⟩ : ∃ n, m = n + 1 := ⟨m - 1, by omega⟩
  have hp := M_pages_eq hd (itr_ok hd hs hν n) hs
  have hl : gIdx (.lst ((orbL (pagesT d size) ν (n + 1)).map numD)) (.int (-1)) = some (numD (itr (pagesT d size) n ν)) := by
    show atI _ _ = _
    exact atI_last (n := n) (by rw [List.length_map, orbL_len]) (by rw [List.getElem?_map, orbL_get (Nat.lt_succ_self n)]; rfl)
  have e : pagesT d size (itr (pagesT d size) n ν) = itr (pagesT d size) j ν := h.rep
  rw [e] at hp
  have hi : gIndex (.lst ((orbL (pagesT d size) ν (n + 1)).map numD)) (numD (itr (pagesT d size) j ν)) = some (.int (j : Nat)) := by
    simp only [gIndex, ok_nums, ok_num, Bool.and_true, if_true, idx_num h.nd (orbL_get hlt), Option.map_some]
  apply run_rt
  simp [B_ending, fGen, hg, hl, hp, hi, orbL_len]
theorem M_settled_eq {d : Doc} {size : Int} {ν : List Int} {m j : Nat} (hd : WF d) (hs : SizeOk size) (hν : NumOk (names d).length ν) (h : Runs (pagesT d size) ν m j) (hm : m ≤ 1000000) : M_settled [docD d, .int size, numD ν] = some (if m = j + 1 then numD (itr (pagesT d size) j ν) else .non) := by
  have hg := G_runs_eq hd hs hν h hm
  have he := M_ending_eq hd hs hν h hm
  have hl : gIdx (.lst ((orbL (pagesT d size) ν m).map numD)) (.int (j : Nat)) = some (numD (itr (pagesT d size) j ν)) := by
    show atI _ _ = _
    exact atI_nat (by rw [List.getElem?_map, orbL_get h.lt]; rfl)
  apply run_rt
  by_cases hj : m = j + 1
  · have h1 : (m : Int) - (j : Int) = 1 := by omega
    rw [if_pos hj]
    rw [h1] at he
    simp [B_settled, fGen, he, hg, hl]
  · have h1 : ¬ (m : Int) - (j : Int) = 1 := by omega
    rw [if_neg hj]
    simp [B_settled, fGen, he, h1]
theorem M_settled_conv {d : Doc} {size : Int} {ν : List Int} {t : Nat} (hd : WF d) (hs : SizeOk size) (hν : NumOk (names d).length ν) (h : Conv (pagesT d size) ν t) (hm : t < 1000000) : M_settled [docD d, .int size, numD ν] = some (numD (itr (pagesT d size) t ν)) := by
  rw [M_settled_eq hd hs hν h.runs (by omega), if_pos rfl]
/-- the law's own -/
theorem lset_loop {d : Doc} {size : Int} {ν : List Int} {t : Nat} (hd : WF d) (hs : SizeOk size) (hν : NumOk (names d).length ν) (h : Conv (pagesT d size) ν t) : ∀ (k i : Nat), i + k = t →
    whileGo (tb (b2 gNe (fVarW 3) (fVarW 2))) L__law_settled_0 (k + 1) [some (docD d), some (.int size), some (numD (itr (pagesT d size) i ν)), some (numD (itr (pagesT d size) (i + 1) ν))] =
      some (.nx [some (docD d), some (.int size), some (numD (itr (pagesT d size) t ν)), some (numD (itr (pagesT d size) t ν))])
  | 0, i, hi => by
    have hi : i = t := by omega
    subst hi
    have e : itr (pagesT d size) (i + 1) ν = itr (pagesT d size) i ν := h.fix
    rw [e, whileGo_succ]
    simp
  | k + 1, i, hi => by
    have ih := lset_loop hd hs hν h k (i + 1) (by omega)
    have hne : ¬ itr (pagesT d size) (i + 1) ν = itr (pagesT d size) i ν := fun e => by
      have := h.runs.inj (a := i + 1) (b := i) (by omega) (by omega) e
      omega
    have hp := M_lpages_eq hd (itr_ok hd hs hν (i + 1)) hs
    rw [whileGo_succ]
    have hb : L__law_settled_0 [some (docD d), some (.int size), some (numD (itr (pagesT d size) i ν)), some (numD (itr (pagesT d size) (i + 1) ν))] =
        some (.nx [some (docD d), some (.int size), some (numD (itr (pagesT d size) (i + 1) ν)), some (numD (itr (pagesT d size) (i + 1 + 1) ν))]) := by
      rw [show itr (pagesT d size) (i + 1 + 1) ν = pagesT d size (itr (pagesT d size) (i + 1) ν) from rfl]
      simp [L__law_settled_0, hp]
    have hc : (tb (b2 gNe (fVarW 3) (fVarW 2))) [some (docD d), some (.int size), some (numD (itr (pagesT d size) i ν)), some (numD (itr (pagesT d size) (i + 1) ν))] = some true := by simp [hne]
    rw [hc, Option.bind_some, if_pos rfl, hb, Option.bind_some]
    exact ih
theorem M_lsettled_eq {d : Doc} {size : Int} {ν : List Int} {t : Nat} (hd : WF d) (hs : SizeOk size) (hν : NumOk (names d).length ν) (h : Conv (pagesT d size) ν t) (hm : t < 1000000) : M__law_settled [docD d, .int size, numD ν] = some (numD (itr (pagesT d size) t ν)) := by
  have hl := lset_loop hd hs hν h t 0 (by omega)
  have hl2 := whileGo_mono hl (m := FU) (by unfold FU; omega)
  simp only [itr] at hl2
  have hp := M_lpages_eq hd hν hs
  apply run_rt
  simp [B__law_settled, hp, gWhile, hl2]
end PL
/-! ### part PT10 -/
namespace PL
open PySem L2 PLaw

/-! ### documents whose pages have at most four digits -/
structure Lim (d : Doc) (size : Int) : Prop where
  wf : WF d
  sz : SizeOk size
  len : d.length ≤ 60
  tx : ∀ n, Item.text n ∈ d → n ≤ 92 * size
  nm : (names d).length ≤ 8
theorem DocOk.lim {d : Doc} {size most : Int} (h : DocOk d size most) (hm : most ≤ 8) : Lim d size := ⟨h.wf, h.size, by have := h.len; omega, h.tx, by have := h.nm; omega⟩
theorem step_lim {size : Int} {len : Str → Int} (hs : SizeOk size) (hl : ∀ s, 1 ≤ len s ∧ len s ≤ 13) {p : Int} {it : Item} (ht : ∀ n, it = .text n → 0 ≤ n ∧ n ≤ 92 * size) : stepP size len p it ≤ p + 92 * size := by
  have h3 := hs.1
  cases it with
  | text n => have := ht n rfl; simp only [stepP]; omega
  | mark s => simp only [stepP]; omega
  | ref s => have := hl s; simp only [stepP]; omega
  | brk =>
    simp only [stepP]
    have h1 := Int.mul_ediv_self_le (x := p + size - 1) (k := size) (by omega)
    rw [Int.mul_comm] at h1
    omega
theorem places_lim {size : Int} {len : Str → Int} (hs : SizeOk size) (hl : ∀ s, 1 ≤ len s ∧ len s ≤ 13) : ∀ (l : Doc) (p : Int), (∀ n, Item.text n ∈ l → 0 ≤ n ∧ n ≤ 92 * size) → ∀ q ∈ placesL size len p l, q ≤ p + (92 * size) * (l.length : Int)
  | [], p, _ => by simp [placesL]
  | it :: l, p, h => by
    have hst := step_lim hs hl (it := it) (p := p) (fun n e => h n (by rw [e]; simp))
    have h3 := hs.1
    have h4 : 0 ≤ (92 * size) * (l.length : Int) := Int.mul_nonneg (by omega) (by omega)
    have e : ((it :: l).length : Int) = (l.length : Int) + 1 := by simp
    have e2 : (92 * size) * ((l.length : Int) + 1) = (92 * size) * (l.length : Int) + 92 * size := by rw [Int.mul_add, Int.mul_one]
    intro q hq
    rw [e, e2]
    rcases List.mem_cons.mp hq with rfl | hq
    · omega
    · have := places_lim hs hl l _ (fun n hn => h n (by simp [hn])) q hq
      omega
theorem pages_lim {d : Doc} {size : Int} {ν : List Int} (h : Lim d size) (hν : NumOk (names d).length ν) : ∀ x ∈ pagesT d size ν, 1 ≤ x ∧ x ≤ 5521 := fun x hx => by
  refine ⟨(pages_ok h.wf hν h.sz).2 x hx, ?_⟩
  obtain ⟨p, hp, rfl⟩ := pagesOf_mem _ _ x hx
  have h1 := places_lim h.sz (lenOf_ok (d := d) hν) d 0 (fun n hn => ⟨(h.wf.texts n hn).1, h.tx n hn⟩) p hp
  have h2 := h.len
  have h3 := h.sz.1
  have h4 : (92 * size) * (d.length : Int) ≤ (92 * size) * 60 := Int.mul_le_mul_of_nonneg_left (by omega) (by omega)
  have h5 : p / size ≤ 5520 := by
    have : p ≤ 5520 * size := by omega
    have e := Int.ediv_le_ediv (a := p) (b := 5520 * size) (c := size) (by omega) this
    rw [Int.mul_ediv_cancel _ (by omega)] at e
    exact e
  omega

/-! ### only the digits count -/
def pw (n : Int) : Int := 10 ^ (n - 1).toNat
theorem dig_pw {n : Int} (h : n = 1 ∨ n = 2 ∨ n = 3 ∨ n = 4) : dig (pw n) = n := by
  have key : ∀ k : Nat, 0 < k → dig (10 ^ k) = (k : Int) + 1 := fun k hk => by
    have h0 : (0 : Int) ≤ 10 ^ k := Int.le_of_lt (Int.pow_pos (by decide))
    have h1 := (dig_le (k := k + 1) h0 (by omega)).mpr (by rw [Int.pow_succ]; have : (0 : Int) < 10 ^ k := Int.pow_pos (by decide); omega)
    have h2 : ¬ dig (10 ^ k) ≤ (k : Nat) := fun z => by have := (dig_le (k := k) h0 hk).mp z; omega
    omega
  rcases h with rfl | rfl | rfl | rfl
  · show dig 1 = 1
    have h1 := (dig_le (n := 1) (k := 1) (by decide) (by decide)).mpr (by decide)
    have h2 := dig_pos (n := 1) (by decide)
    omega
  · exact key 1 (by decide)
  · exact key 2 (by decide)
  · exact key 3 (by decide)
theorem numOf_dig : ∀ {ns : List Str} {ν μ : List Int}, ν.map dig = μ.map dig → ∀ s, dig (numOf ns ν s) = dig (numOf ns μ s)
  | [], ν, μ, _, s => by simp [numOf]
  | n :: ns, [], [], _, s => by simp [numOf]
  | n :: ns, [], _ :: _, h, s => by simp at h
  | n :: ns, _ :: _, [], h, s => by simp at h
  | n :: ns, x :: ν, y :: μ, h, s => by
    simp only [List.map_cons, List.cons.injEq] at h
    simp only [numOf]
    split
    · exact h.1
    · exact numOf_dig h.2 s
theorem pages_dig {d : Doc} {size : Int} {ν μ : List Int} (h : ν.map dig = μ.map dig) : pagesT d size ν = pagesT d size μ := by
  have : lenOf d ν = lenOf d μ := by funext s; exact numOf_dig h s
  rw [pagesT_eq, pagesT_eq, this]
/-- all rows of so many digits' numbers -/
def vecs : Nat → List (List Int)
  | 0 => [[]]
  | k + 1 => (vecs k).flatMap fun v => [1 :: v, 2 :: v, 3 :: v, 4 :: v]
theorem vecs_len : ∀ k, (vecs k).length = 4 ^ k
  | 0 => rfl
  | k + 1 => by
    unfold vecs
    rw [List.length_flatMap]
    simp only [List.length_cons, List.length_nil]
    have e := vecs_len k
    have : ((vecs k).map fun _ => 4).sum = 4 * (vecs k).length := by
      generalize vecs k = l
      induction l with
      | nil => rfl
      | cons x l ih => simp only [List.map_cons, List.sum_cons, ih, List.length_cons]; omega
    rw [this, e, Nat.pow_succ]; omega
theorem vecs_mem : ∀ {v : List Int}, (∀ n ∈ v, n = 1 ∨ n = 2 ∨ n = 3 ∨ n = 4) → v ∈ vecs v.length
  | [], _ => by simp [vecs]
  | n :: v, h => by
    have ih := vecs_mem (v := v) fun m hm => h m (by simp [hm])
    rw [List.length_cons]
    unfold vecs
    refine List.mem_flatMap.mpr ⟨v, ih, ?_⟩
    rcases h n (by simp) with rfl | rfl | rfl | rfl <;> simp
theorem img {d : Doc} {size : Int} {ν : List Int} (h : ∀ x ∈ ν, 1 ≤ x ∧ x ≤ 5521) : pagesT d size ν ∈ (vecs ν.length).map fun v => pagesT d size (v.map pw) := by
  have hv : ∀ n ∈ ν.map dig, n = 1 ∨ n = 2 ∨ n = 3 ∨ n = 4 := fun n hn => by
    obtain ⟨x, hx, rfl⟩ := List.mem_map.mp hn
    have := h x hx
    have h1 := dig_pos (n := x) (by omega)
    have h2 := (dig_le (n := x) (k := 4) (by omega) (by decide)).mpr (by omega)
    omega
  have hm := vecs_mem hv
  rw [List.length_map] at hm
  refine List.mem_map.mpr ⟨ν.map dig, hm, ?_⟩
  refine pages_dig ?_
  rw [List.map_map]
  have : ∀ l : List Int, (∀ n ∈ l, n = 1 ∨ n = 2 ∨ n = 3 ∨ n = 4) → l.map (dig ∘ pw) = l := fun l => by
    intro hl
    induction l with
    | nil => rfl
    | cons x l ih => rw [List.map_cons, ih (fun n hn => hl n (by simp [hn]))]; show dig (pw x) :: l = _; rw [dig_pw (hl x (by simp))]
  exact this _ hv
/-- the runs end -/
theorem runs_lim {d : Doc} {size : Int} {ν : List Int} (h : Lim d size) (hν : NumOk (names d).length ν) : ∃ m j, m ≤ 65538 ∧ Runs (pagesT d size) ν m j := by
  obtain ⟨m, j, h1, h2⟩ := runs_ex (F := pagesT d size) (ν := ν) (L := (vecs (names d).length).map fun v => pagesT d size (v.map pw)) fun i => by
    have ho := itr_ok h.wf h.sz hν i
    have hb := pages_lim h ho
    have := img (d := d) (size := size) (ν := pagesT d size (itr (pagesT d size) i ν)) hb
    rw [(pages_ok h.wf ho h.sz).1.1] at this
    exact this
  rw [List.length_map, vecs_len] at h1
  have : 4 ^ (names d).length ≤ 4 ^ 8 := Nat.pow_le_pow_right (by decide) h.nm
  exact ⟨m, j, by omega, h2⟩

/-! ### the least and the greatest -/
theorem Le.rep : ∀ {ν : List Int} {x : Int}, (∀ n ∈ ν, x ≤ n) → Le (List.replicate ν.length x) ν
  | [], x, _ => trivial
  | n :: ν, x, h => ⟨h n (by simp), Le.rep fun m hm => h m (by simp [hm])⟩
theorem Le.rep_up : ∀ {ν : List Int} {x : Int}, (∀ n ∈ ν, n ≤ x) → Le ν (List.replicate ν.length x)
  | [], x, _ => trivial
  | n :: ν, x, h => ⟨h n (by simp), Le.rep_up fun m hm => h m (by simp [hm])⟩
def ones (d : Doc) : List Int := List.replicate (names d).length 1
def tops (d : Doc) : List Int := List.replicate (names d).length 1000000000
theorem ones_ok (d : Doc) : NumOk (names d).length (ones d) := ⟨by simp [ones], fun n hn => by simp [ones, List.mem_replicate] at hn; omega⟩
theorem tops_ok (d : Doc) : NumOk (names d).length (tops d) := ⟨by simp [tops], fun n hn => by simp [tops, List.mem_replicate] at hn; omega⟩
theorem itr_mono {d : Doc} {size : Int} {ν μ : List Int} (hd : WF d) (hs : SizeOk size) (hν : NumOk (names d).length ν) (h : Le ν μ) : ∀ i, Le (itr (pagesT d size) i ν) (itr (pagesT d size) i μ)
  | 0 => h
  | i + 1 => pages_mono hs (itr_mono hd hs hν h i) (itr_ok hd hs hν i)
/-- runs that rise from the first on -/
theorem rise {d : Doc} {size : Int} {ν : List Int} (h : Lim d size) (hν : NumOk (names d).length ν) (hl : Le ν (pagesT d size ν)) : (∀ i, Le (itr (pagesT d size) i ν) (itr (pagesT d size) (i + 1) ν)) ∧ ∃ t, t ≤ 65537 ∧ Conv (pagesT d size) ν t := by
  have hc : ∀ i, Le (itr (pagesT d size) i ν) (itr (pagesT d size) (i + 1) ν) := fun i => by
    induction i with
    | zero => exact hl
    | succ i ih => exact pages_mono h.sz ih (itr_ok h.wf h.sz hν i)
  obtain ⟨m, j, h1, h2⟩ := runs_lim h hν
  have := h2.lt
  exact ⟨hc, j, by omega, h2.of_chain Le (fun _ _ _ => Le.trans) (fun _ _ => Le.antisymm) hc⟩
theorem fall {d : Doc} {size : Int} {ν : List Int} (h : Lim d size) (hν : NumOk (names d).length ν) (hl : Le (pagesT d size ν) ν) : (∀ i, Le (itr (pagesT d size) (i + 1) ν) (itr (pagesT d size) i ν)) ∧ ∃ t, t ≤ 65537 ∧ Conv (pagesT d size) ν t := by
  have hc : ∀ i, Le (itr (pagesT d size) (i + 1) ν) (itr (pagesT d size) i ν) := fun i => by
    induction i with
    | zero => exact hl
    | succ i ih => exact pages_mono h.sz ih (itr_ok h.wf h.sz hν (i + 1))
  obtain ⟨m, j, h1, h2⟩ := runs_lim h hν
  have := h2.lt
  exact ⟨hc, j, by omega, h2.of_chain (fun a b => Le b a) (fun _ _ _ a b => Le.trans b a) (fun _ _ a b => Le.antisymm b a) hc⟩
theorem ones_rise {d : Doc} {size : Int} (h : Lim d size) : Le (ones d) (pagesT d size (ones d)) := by
  have h1 := pages_ok h.wf (ones_ok d) h.sz
  have := Le.rep (ν := pagesT d size (ones d)) (x := 1) h1.2
  rw [h1.1.1] at this
  exact this
theorem tops_fall {d : Doc} {size : Int} (h : Lim d size) : Le (pagesT d size (tops d)) (tops d) := by
  have h1 := pages_ok h.wf (tops_ok d) h.sz
  have := Le.rep_up (ν := pagesT d size (tops d)) (x := 1000000000) fun n hn => by have := pages_lim h (tops_ok d) n hn; omega
  rw [h1.1.1] at this
  exact this
/-- a consistent numbering -/
def Cons (d : Doc) (size : Int) (μ : List Int) : Prop := pagesT d size μ = μ
/-- the least one, the greatest one -/
structure Lo (d : Doc) (size : Int) (lo : List Int) : Prop where
  conv : ∃ t, t ≤ 65537 ∧ Conv (pagesT d size) (ones d) t ∧ itr (pagesT d size) t (ones d) = lo
structure Hi (d : Doc) (size : Int) (hi : List Int) : Prop where
  conv : ∃ t, t ≤ 65537 ∧ Conv (pagesT d size) (tops d) t ∧ itr (pagesT d size) t (tops d) = hi
theorem lo_ex {d : Doc} {size : Int} (h : Lim d size) : ∃ lo, Lo d size lo := by
  obtain ⟨_, t, h1, h2⟩ := rise h (ones_ok d) (ones_rise h)
  exact ⟨_, t, h1, h2, rfl⟩
theorem hi_ex {d : Doc} {size : Int} (h : Lim d size) : ∃ hi, Hi d size hi := by
  obtain ⟨_, t, h1, h2⟩ := fall h (tops_ok d) (tops_fall h)
  exact ⟨_, t, h1, h2, rfl⟩
theorem Lo.cons {d : Doc} {size : Int} {lo : List Int} (h : Lo d size lo) : Cons d size lo := by
  obtain ⟨t, _, h2, rfl⟩ := h.conv
  exact h2.fix
theorem Hi.cons {d : Doc} {size : Int} {lo : List Int} (h : Hi d size lo) : Cons d size lo := by
  obtain ⟨t, _, h2, rfl⟩ := h.conv
  exact h2.fix
theorem Lo.ok {d : Doc} {size : Int} {lo : List Int} (l : Lim d size) (h : Lo d size lo) : NumOk (names d).length lo := by
  obtain ⟨t, _, h2, rfl⟩ := h.conv
  exact itr_ok l.wf l.sz (ones_ok d) t
theorem Hi.ok {d : Doc} {size : Int} {lo : List Int} (l : Lim d size) (h : Hi d size lo) : NumOk (names d).length lo := by
  obtain ⟨t, _, h2, rfl⟩ := h.conv
  exact itr_ok l.wf l.sz (tops_ok d) t
theorem itr_fix {F : List Int → List Int} {μ : List Int} (h : F μ = μ) : ∀ i, itr F i μ = μ
  | 0 => rfl
  | i + 1 => by simp only [itr]; rw [itr_fix h i, h]
theorem cons_bd {d : Doc} {size : Int} {μ : List Int} (l : Lim d size) (hμ : NumOk (names d).length μ) (h : Cons d size μ) : ∀ x ∈ μ, 1 ≤ x ∧ x ≤ 5521 := fun x hx => by
  have := pages_lim l hμ
  rw [show pagesT d size μ = μ from h] at this
  exact this x hx
/-- from below: at most every consistent one -/
theorem below_of {d : Doc} {size : Int} {ν μ : List Int} (l : Lim d size) (hν : NumOk (names d).length ν) (h : Cons d size μ) (hle : Le ν μ) (i : Nat) : Le (itr (pagesT d size) i ν) μ := by
  have := itr_mono l.wf l.sz hν hle i
  rwa [itr_fix h i] at this
theorem above_of {d : Doc} {size : Int} {ν μ : List Int} (l : Lim d size) (hμ : NumOk (names d).length μ) (h : Cons d size μ) (hle : Le μ ν) (i : Nat) : Le μ (itr (pagesT d size) i ν) := by
  have := itr_mono l.wf l.sz hμ hle i
  rwa [itr_fix h i] at this
theorem ones_le {d : Doc} {μ : List Int} (hμ : μ.length = (names d).length) (h : ∀ x ∈ μ, 1 ≤ x) : Le (ones d) μ := by
  have := Le.rep h
  rw [hμ] at this
  exact this
theorem le_tops {d : Doc} {μ : List Int} (hμ : μ.length = (names d).length) (h : ∀ x ∈ μ, x ≤ 1000000000) : Le μ (tops d) := by
  have := Le.rep_up h
  rw [hμ] at this
  exact this
theorem Lo.le {d : Doc} {size : Int} {lo μ : List Int} (l : Lim d size) (h : Lo d size lo) (hμ : NumOk (names d).length μ) (hc : Cons d size μ) : Le lo μ := by
  obtain ⟨t, _, h2, rfl⟩ := h.conv
  exact below_of l (ones_ok d) hc (ones_le hμ.1 fun x hx => (cons_bd l hμ hc x hx).1) t
theorem Hi.ge {d : Doc} {size : Int} {hi μ : List Int} (l : Lim d size) (h : Hi d size hi) (hμ : NumOk (names d).length μ) (hc : Cons d size μ) : Le μ hi := by
  obtain ⟨t, _, h2, rfl⟩ := h.conv
  exact above_of l hμ hc (le_tops hμ.1 fun x hx => by have := cons_bd l hμ hc x hx; omega) t
/-! in the program -/
theorem rep_num (k : Nat) (x : Int) : rep (k : Int) [.int x] = (List.replicate k x).map .int := by
  rw [rep_one, List.map_replicate]; simp
theorem gMul_one {x : Int} {k : Nat} (h : k ≤ 1000) : gMul (.tup [.int x]) (.int (k : Int)) = some (numD (List.replicate k x)) := by
  have h2 : (1 : Nat) ≤ 1000 ∧ -1000 ≤ (k : Int) ∧ (k : Int) ≤ 1000 := by omega
  simp only [gMul, List.length_singleton, ne_eq, List.cons_ne_nil, not_false_eq_true, true_and, h2, and_self, if_true, rep_num]
  rfl
theorem M_least_eq {d : Doc} {size : Int} {lo : List Int} (l : Lim d size) (h : Lo d size lo) : M_least [docD d, .int size] = some (numD lo) := by
  obtain ⟨t, h1, h2, rfl⟩ := h.conv
  have hl := l.len
  have hn := l.nm
  have hm := M_settled_conv l.wf l.sz (ones_ok d) h2 (by omega)
  have hg := gMul_one (x := 1) (k := (names d).length) (by omega)
  apply run_rt
  unfold ones at hm
  simp [B_least, M_names (show d.length ≤ 1000000 by omega), hg, hm]
  rfl
theorem M_greatest_eq {d : Doc} {size : Int} {lo : List Int} (l : Lim d size) (h : Hi d size lo) : M_greatest [docD d, .int size] = some (numD lo) := by
  obtain ⟨t, h1, h2, rfl⟩ := h.conv
  have hl := l.len
  have hn := l.nm
  have hm := M_settled_conv l.wf l.sz (tops_ok d) h2 (by omega)
  have hg := gMul_one (x := 1000000000) (k := (names d).length) (by omega)
  apply run_rt
  unfold tops at hm
  simp [B_greatest, M_names (show d.length ≤ 1000000 by omega), hg, hm]
  rfl
theorem M_lleast_eq {d : Doc} {size : Int} {lo : List Int} (l : Lim d size) (h : Lo d size lo) : M__law_least [docD d, .int size] = some (numD lo) := by
  obtain ⟨t, h1, h2, rfl⟩ := h.conv
  have hl := l.len
  have hn := l.nm
  have hm := M_lsettled_eq l.wf l.sz (ones_ok d) h2 (by omega)
  have hg := gMul_one (x := 1) (k := (names d).length) (by omega)
  apply run_rt
  unfold ones at hm
  simp [B__law_least, M_lnames (show d.length ≤ 1000000 by omega), hg, hm]
  rfl
theorem M_lgreatest_eq {d : Doc} {size : Int} {lo : List Int} (l : Lim d size) (h : Hi d size lo) : M__law_greatest [docD d, .int size] = some (numD lo) := by
  obtain ⟨t, h1, h2, rfl⟩ := h.conv
  have hl := l.len
  have hn := l.nm
  have hm := M_lsettled_eq l.wf l.sz (tops_ok d) h2 (by omega)
  have hg := gMul_one (x := 1000000000) (k := (names d).length) (by omega)
  apply run_rt
  unfold tops at hm
  simp [B__law_greatest, M_lnames (show d.length ≤ 1000000 by omega), gPow, hg, hm]
  rfl
end PL
/-! ### part PV1 -/
namespace PL
open PySem L2 PLaw

/-! ### the object mirrors' words, one step each -/
section
variable {ρ ρ1 : Rho} {g : Rho → Option Fl} {g1 g2 : Rho → Option Fo} {gr : Rho → Option Ro} {f f1 f2 f3 fk : Rho → Option D} {fs : Rho → Option (List D)} {c : Rho → Option Bool} {i j n : Nat} {d x y z : D} {ds r : List D} {C CC : Addr} {o : Option Addr} {t : Tgt}
variable {fz1 fz2 : Rho → Option Eo} {fb1 fb2 : Rho → Option Eb} {fm fm2 : Rho → Option Em} {src : Rho → Option (List D)} {FR : List D → List D → Option Ro} {FM : List D → List D → Option Mo} {FS : List D → D → List D → Option Mo} {FI : List D → Option D → Option Mo} {op : D → D → Option D} {tab : Addr → Option Str}
@[simp] theorem o_seq : oSeq g1 g2 ρ = (g1 ρ).bind (thenO g2) := (rfl)
@[simp] theorem o_then : thenO g2 (.nx ρ) = g2 ρ := (rfl)
@[simp] theorem o_thenR : thenO g2 (.rt d) = some (.rt d) := (rfl)
@[simp] theorem o_thenB : thenO g2 (.bk ρ) = some (.bk ρ) := (rfl)
@[simp] theorem o_thenC : thenO g2 (.ct ρ) = some (.ct ρ) := (rfl)
@[simp] theorem o_thenRo : thenO g2 (.ro ρ d) = some (.ro ρ d) := (rfl)
@[simp] theorem o_thenE : thenO g2 (.ex C ρ) = some (.ex C ρ) := (rfl)
@[simp] theorem o_nil : oNil ρ = some (.nx ρ) := (rfl)
@[simp] theorem o_up : oUp g ρ = (g ρ).map upFl := (rfl)
@[simp] theorem up_nx : upFl (.nx ρ) = .nx ρ := (rfl)
@[simp] theorem up_rt : upFl (.rt d) = .rt d := (rfl)
@[simp] theorem up_bk : upFl (.bk ρ) = .bk ρ := (rfl)
@[simp] theorem up_ct : upFl (.ct ρ) = .ct ρ := (rfl)
@[simp] theorem o_if : oIf c g1 g2 ρ = (c ρ).bind fun k => if k = true then g1 ρ else g2 ρ := (rfl)
@[simp] theorem o_ret : oRet f ρ = (f ρ).map (.ro ρ) := (rfl)
@[simp] theorem o_raise : oRaise C ρ = some (.ex C ρ) := (rfl)
@[simp] theorem o_fld : oFld i j f ρ = (f ρ).bind fun d => match ρ[i]? with
  | some (some (.obj o c ds)) => (putD j d ds).map fun es => .nx (ρ.set i (some (.obj o c es)))
  | _ => none := (rfl)
@[simp] theorem o_do : oDo fz1 ρ = (fz1 ρ).map fun r => match r with
  | .ok _ ρ1 => .nx ρ1
  | .ex C ρ1 => .ex C ρ1 := (rfl)
@[simp] theorem o_setz : oSetZ i fz1 ρ = (fz1 ρ).map fun r => match r with
  | .ok d ρ1 => .nx (ρ1.set i (some d))
  | .ex C ρ1 => .ex C ρ1 := (rfl)
@[simp] theorem o_retz : oRetZ fz1 ρ = (fz1 ρ).map fun r => match r with
  | .ok d ρ1 => .ro ρ1 d
  | .ex C ρ1 => .ex C ρ1 := (rfl)
@[simp] theorem o_ifz : oIfZ fb1 g1 g2 ρ = (fb1 ρ).bind fun r => match r with
  | .ok b ρ1 => if b = true then g1 ρ1 else g2 ρ1
  | .ex C ρ1 => some (.ex C ρ1) := (rfl)
@[simp] theorem o_setm : oSetM i fm ρ = (fm ρ).map fun r => match r with
  | .ok c ds => .nx (ρ.set i (some (.obj none c ds)))
  | .ex C => .ex C ρ := (rfl)
@[simp] theorem o_for : oFor src t g1 ρ = (src ρ).bind fun l => ofGo t g1 l ρ := (rfl)
@[simp] theorem z_up : zUp f ρ = (f ρ).map fun d => .ok d ρ := (rfl)
@[simp] theorem zb_up : zbUp c ρ = (c ρ).map fun d => .ok d ρ := (rfl)
@[simp] theorem z_op : zOp op fz1 f ρ = (fz1 ρ).bind fun r => match r with
  | .ok x ρ1 => (f ρ1).bind fun y => (op x y).map fun d => .ok d ρ1
  | .ex C ρ1 => some (.ex C ρ1) := (rfl)
@[simp] theorem zb_op : zbOp op fz1 f ρ = (fz1 ρ).bind fun r => match r with
  | .ok x ρ1 => (f ρ1).bind fun y => (op x y).bind fun d => (asB d).map fun b => .ok b ρ1
  | .ex C ρ1 => some (.ex C ρ1) := (rfl)
@[simp] theorem z_or : zOr fb1 fb2 ρ = (fb1 ρ).bind fun r => match r with
  | .ok b ρ1 => if b = true then some (.ok true ρ1) else fb2 ρ1
  | .ex C ρ1 => some (.ex C ρ1) := (rfl)
@[simp] theorem z_and : zAnd fb1 fb2 ρ = (fb1 ρ).bind fun r => match r with
  | .ok b ρ1 => if b = true then fb2 ρ1 else some (.ok false ρ1)
  | .ex C ρ1 => some (.ex C ρ1) := (rfl)
@[simp] theorem z_not : zNot fb1 ρ = (fb1 ρ).map fun r => match r with
  | .ok b ρ1 => .ok (!b) ρ1
  | .ex C ρ1 => .ex C ρ1 := (rfl)
@[simp] theorem z_else {α : Type} {h1 h2 : Rho → Option α} : zElse h1 h2 ρ = (h1 ρ).orElse fun _ => h2 ρ := (rfl)
@[simp] theorem z_told : zTold tab fz1 ρ = (fz1 ρ).bind fun r => match r with
  | .ok d ρ1 => some (.ok (.tup [d, .str ""]) ρ1)
  | .ex C ρ1 => (tab C).map fun t => .ok (.tup [.non, .str t]) ρ1 := (rfl)
@[simp] theorem z_meth : zMeth i C n FM fs ρ = match ρ[i]? with
  | some (some (.obj o c ds)) => if c = C then (fs ρ).bind fun args => if args.length = n then (FM ds args).map fun r => match r with
    | .ok d es => .ok d (ρ.set i (some (.obj o c es)))
    | .ex D es => .ex D (ρ.set i (some (.obj o c es))) else none else none
  | _ => none := (rfl)
@[simp] theorem z_sup : zSup C n FM fs ρ = zMeth 0 C n FM fs ρ := (rfl)
@[simp] theorem z_meths : zMethS i C FS fs ρ = match ρ[i]? with
  | some (some (.obj o c ds)) => if c = C then (fs ρ).bind fun args => match args with
    | d :: xs => if small xs.length = true then (FS ds d xs).map fun r => match r with
      | .ok d es => .ok d (ρ.set i (some (.obj o c es)))
      | .ex D es => .ex D (ρ.set i (some (.obj o c es))) else none
    | [] => none else none
  | _ => none := (rfl)
@[simp] theorem z_supi : zSupI C FI f fk ρ = match (ρ[(0 : Nat)]? : Option (Option D)) with
  | some (some (.obj o c [])) => if c = C then (f ρ).bind fun x => (fk ρ).bind fun y => match x with
    | .tup args => if small args.length = true then (FI args (some y)).map fun r => match r with
      | .ok d es => .ok d (ρ.set 0 (some (.obj o c es)))
      | .ex D es => .ex D (ρ.set 0 (some (.obj o c es))) else none
    | _ => none else none
  | _ => none := (rfl)
@[simp] theorem f_fld : fFld j f ρ = (f ρ).bind (gFld j) := (rfl)
@[simp] theorem g_fld : gFld j (.obj o C ds) = ds[j]? := (rfl)
@[simp] theorem f_read : fRead C n FR f fs ρ = (f ρ).bind fun x => (fs ρ).bind (gRead C n FR x) := (rfl)
theorem read_ok (h : FR ds [] = some (Sum.inl d)) : gRead C 0 FR (.obj o C ds) [] = some d := by simp only [gRead, h]; rfl
theorem read_no (h : CC ≠ C) : gRead C n FR (.obj o CC ds) r = none := by simp [gRead, h]
@[simp] theorem f_leno : fLenO C FR f ρ = (fRead C 0 FR f fsNil ρ).bind isLen := (rfl)
@[simp] theorem f_dget : fDget f1 f2 f3 ρ = (f1 ρ).bind fun x => (f2 ρ).bind fun y => (f3 ρ).bind fun z => gDget x y z := (rfl)
@[simp] theorem g_dget {kvs : List (Key × D)} : gDget (.dic kvs) y z = (keyD y).map fun k => (lookK k kvs).getD z := (rfl)
@[simp] theorem r_ret : rRet f ρ = (f ρ).map .inl := (rfl)
@[simp] theorem r_if : rIf C c gr ρ = (c ρ).bind fun k => if k = true then some (.inr C) else gr ρ := (rfl)
@[simp] theorem m_if : mIf c fm fm2 ρ = (c ρ).bind fun k => if k = true then fm ρ else fm2 ρ := (rfl)
@[simp] theorem m_make : mMake C FI fs ρ = (fs ρ).bind fun args => if small args.length = true then (FI args none).bind (moEm C) else none := (rfl)
@[simp] theorem m_makek : mMakeK C FI fs fk ρ = (fs ρ).bind fun args => (fk ρ).bind fun y => if small args.length = true then (FI args (some y)).bind (moEm C) else none := (rfl)
@[simp] theorem moem_ok : moEm C (.ok .non ds) = some (.ok C ds) := (rfl)
@[simp] theorem moem_ex : moEm C (.ex CC ds) = some (.ex CC) := (rfl)
@[simp] theorem fr_obj : frzD (.obj o C ds) = .obj o C ds := (rfl)
@[simp] theorem put_0 : putD 0 d (x :: r) = some (d :: r) := by simp [putD]
@[simp] theorem put_00 : putD 0 d [] = some [d] := by simp [putD]
@[simp] theorem put_1 : putD 1 d (x :: y :: r) = some (x :: d :: r) := by simp [putD]
@[simp] theorem put_11 : putD 1 d [x] = some [x, d] := by simp [putD]
@[simp] theorem put_2 : putD 2 d (x :: y :: z :: r) = some (x :: y :: d :: r) := by simp [putD]
@[simp] theorem put_22 : putD 2 d [x, y] = some [x, y, d] := by simp [putD]
@[simp] theorem isLen_int : isLen (.int (n : Nat)) = if n < 1000000 then some (.int (n : Nat)) else none := by
  unfold isLen
  by_cases h : n < 1000000
  · have h2 : (0 : Int) ≤ n ∧ (n : Int) < 1000000 := by omega
    simp only [if_pos h, if_pos h2]
  · have h2 : ¬ ((0 : Int) ≤ n ∧ (n : Int) < 1000000) := by omega
    simp only [if_neg h, if_neg h2]
end
theorem ix_nat {xs : List D} {i : Nat} (h : i < xs.length) : gIdx (.lst xs) (.int (i : Nat)) = some xs[i] := PL.atI_nat (List.getElem?_eq_getElem h)
theorem lenL {xs : List D} : gLen (.lst xs) = some (.int (xs.length : Nat)) := (rfl)
theorem cut_lo3 {α : Type} {xs : List α} {k : Nat} : cutD xs none (some (k : Int)) = xs.take k := by
  unfold cutD
  rw [HT.sIx_nat, HT.sIx_none]
  simp
theorem cut_hi3 {α : Type} {xs : List α} {k : Nat} (h : k ≤ xs.length) : cutD xs (some (k : Int)) none = xs.drop k := by
  have := cut_hi (xs := xs) (k := (k : Int)) (by omega) (by omega)
  simpa using this
/-- an index that the digits give -/
theorem modN {ds : List Int} {j : Int} {n : Nat} (h0 : ∀ x ∈ ds, 0 ≤ x) (hj : 0 ≤ j) (hl : j < ds.length) (hn : 0 < n) : ∃ t : Nat, t < n ∧ gIdx (.lst (ds.map .int)) (.int j) = some (.int (atZ ds j)) ∧ gMod (.int (atZ ds j)) (.int (n : Nat)) = some (.int (t : Nat)) := by
  have e0 := h0 _ (atZ_mem (ns := ds) hj hl)
  have e1 := Int.emod_nonneg (atZ ds j) (b := (n : Int)) (by omega)
  have e2 := Int.emod_lt_of_pos (atZ ds j) (b := (n : Int)) (by omega)
  refine ⟨(atZ ds j % (n : Int)).toNat, by omega, ix_ints hj hl, ?_⟩
  rw [mod_int (by omega), show (((atZ ds j % (n : Int)).toNat : Nat) : Int) = atZ ds j % (n : Int) by omega]

/-! ### another value in a value's place -/
theorem ofGo_inv {t : Tgt} {b : Rho → Option Fo} (P : Nat → Rho → Prop) {l : List D} {ρ : Rho} (h0 : P 0 ρ)
    (hs : ∀ i d ρ, l[i]? = some d → P i ρ → ∃ ρ1 ρ2, t d ρ = some ρ1 ∧ b ρ1 = some (.nx ρ2) ∧ P (i + 1) ρ2) : ∃ ρ', ofGo t b l ρ = some (.nx ρ') ∧ P l.length ρ' := by
  have gen : ∀ (r : List D) (k : Nat) (ρ : Rho), (∀ i d, r[i]? = some d → l[k + i]? = some d) → k + r.length = l.length → P k ρ → ∃ ρ', ofGo t b r ρ = some (.nx ρ') ∧ P l.length ρ' := by
    intro r
    induction r with
    | nil => intro k ρ _ hl hp; exact ⟨ρ, rfl, by rw [← hl]; exact hp⟩
    | cons d r ih =>
      intro k ρ hi hl hp
      obtain ⟨ρ1, ρ2, h1, h2, h3⟩ := hs k d ρ (hi 0 d rfl) hp
      obtain ⟨ρ', h4, h5⟩ := ih (k + 1) ρ2 (fun i e h => by rw [Nat.add_assoc, Nat.add_comm 1]; exact hi (i + 1) e h) (by simp at hl; omega) h3
      refine ⟨ρ', ?_, h5⟩
      simp only [ofGo, h1, Option.bind_some, h2]
      exact h4
  exact gen l 0 ρ (fun i d h => by rw [Nat.zero_add]; exact h) (by simp) h0
theorem ofGo_range {t : Tgt} {b : Rho → Option Fo} (P : Nat → Rho → Prop) {n : Nat} {ρ : Rho} (h0 : P 0 ρ)
    (hs : ∀ i ρ, i < n → P i ρ → ∃ ρ1 ρ2, t (.int (i : Nat)) ρ = some ρ1 ∧ b ρ1 = some (.nx ρ2) ∧ P (i + 1) ρ2) : ∃ ρ', ofGo t b ((List.range n).map fun k => .int (k : Nat)) ρ = some (.nx ρ') ∧ P n ρ' := by
  have := ofGo_inv (t := t) (b := b) P (l := (List.range n).map fun k => D.int (k : Nat)) h0 (fun i d ρ hd hp => by
    rw [List.getElem?_map] at hd
    obtain ⟨k, h1, rfl⟩ := Option.map_eq_some_iff.mp hd
    obtain ⟨h2, h3⟩ := List.getElem?_eq_some_iff.mp h1
    rw [List.getElem_range] at h3
    subst h3
    exact hs _ ρ (by simpa using h2) hp)
  simpa using this
theorem mF_eq {N : Nat} {C : Addr} {g : Rho → Option Fo} {fds args : List D} {r : Mo} (h : ∀ a, ∃ fo, g (rhoM N a C fds args) = some fo ∧ MoOf a C fo r) : mF N C g fds args = some r := doF_eq h
theorem iF_eq {N : Nat} {C : Addr} {dd : D} {g : Rho → Option Fo} {args : List D} {kd : Option D} {r : Mo} (h : ∀ a, ∃ fo, g (rhoM N a C [] [kd.getD dd, .tup args]) = some fo ∧ MoOf a C fo r) : iF N C dd g args kd = some r := doF_eq h
theorem sF_eq {N : Nat} {C : Addr} {g : Rho → Option Fo} {fds args : List D} {d : D} {r : Mo} (h : ∀ a, ∃ fo, g (rhoM N a C fds [d, .tup args]) = some fo ∧ MoOf a C fo r) : sF N C g fds d args = some r := doF_eq h
end PL
/-! ### part PV2 -/
namespace PL
open PySem L2 PLaw

/-! ### readers -/
theorem gAdd_tt {a b : List D} (h : a.length + b.length ≤ 16777216) : gAdd (.tup a) (.tup b) = some (.tup (a ++ b)) := by
  simp only [gAdd, small_le' h, if_true]
section
variable {q : Ad}
def keep (ns : List Str) (ν : List Int) (s : Str) : Int := if s ∈ ns then numOf ns ν s else 1
theorem dc_go5 {a b : Option D} : ∀ (ms : List Str) (μ : List Int) (ns : List Str) (ν : List Int), (ns ++ ms).Nodup → ns.length = ν.length →
    dcGo (tTup 2 (tCons (tName 3) (tCons (tName 4) tNil))) cYes (fVar 3) (fVar 4) [a, b, none, none, none] (zipD (ms.map .str) (μ.map .int)) (dicN ns ν) = some (dicN ns ν ++ dicN ms μ)
  | [], μ, ns, ν, _, _ => by simp [zipD, dcGo, dicN]
  | _ :: _, [], ns, ν, _, _ => by simp [zipD, dcGo, dicN]
  | s :: ms, n :: μ, ns, ν, hd, hl => by
    have hs : s ∉ ns := fun hm => by
      rw [List.nodup_append] at hd
      exact hd.2.2 s hm s (by simp) rfl
    have ih := dc_go5 (a := a) (b := b) ms μ (ns ++ [s]) (ν ++ [n]) (by simpa using hd) (by simp [hl])
    rw [dicN_app _ _ _ _ hl] at ih
    have e1 : dicN [s] [n] = [(.inr s, .int n)] := rfl
    rw [e1] at ih
    have e2 : dicN (s :: ms) (n :: μ) = (.inr s, .int n) :: dicN ms μ := rfl
    simp only [List.map_cons, zipD, dcGo]
    simp [put_new hs, ih, e2]
theorem look_no : ∀ (ns : List Str) (ν : List Int) (s : Str), s ∉ ns → lookK (.inr s) (dicN ns ν) = none
  | n :: ns, v :: ν, s, h => by
    have e2 : dicN (n :: ns) (v :: ν) = (.inr n, .int v) :: dicN ns ν := rfl
    rw [e2]
    have h1 : ¬ n = s := fun e => h (by simp [e])
    simp only [lookK, Sum.inr.injEq, h1, if_false]
    exact look_no ns ν s (fun hm => h (by simp [hm]))
  | [], _, s, _ => by simp [dicN, lookK]
  | _ :: _, [], s, _ => by simp [dicN, lookK]
theorem look_keep {ns : List Str} {ν : List Int} {s : Str} (hl : ns.length = ν.length) : (lookK (.inr s) (dicN ns ν)).getD (.int 1) = .int (keep ns ν s) := by
  unfold keep
  by_cases h : s ∈ ns
  · rw [look_dic ns ν s h hl, if_pos h]; rfl
  · rw [look_no ns ν s h, if_neg h]; rfl

theorem rd_content_D {x : List D} {r : List D} : F_Document_content_D q (.tup x :: r) [] = some (.inl (.tup x)) := rF_eq fun a => by simp [B_Document_content_D, rhoM]; rfl
theorem rd_len_D {x : List D} {r : List D} : F_Document___len___D q (.tup x :: r) [] = some (.inl (.int (x.length : Nat))) := rF_eq fun a => by simp [B_Document___len___D, rhoM]; rfl
theorem change0_D {x : D} {r : List D} {ys : List D} : F_Document_change_D q (x :: r) [.tup ys] = some (.ok .non (.tup ys :: r)) := mF_eq fun a => ⟨.nx [some (.obj (some a) q.D (.tup ys :: r)), some (.tup ys)], by simp [B_Document_change_D, rhoM], rfl, rfl⟩
theorem init0_D {args : List D} {z : D} {b c : Bool} (hz : noOpn z = some z) (h1 : M_is_document [.tup args] = some (.bl b)) (h2 : M_is_integer [z, .int 1, .int 10000] = some (.bl c)) :
    F_Document___init___D q args (some z) = some (if b = false then .ex q.eI [] else if c = false then .ex q.eS [] else .ok .non [.tup args, z]) := iF_eq fun a => by
  cases b with
  | false => exact ⟨.ex q.eI [some (.obj (some a) q.D []), some z, some (.tup args)], by simp [B_Document___init___D, rhoM, h1], rfl, rfl⟩
  | true =>
    cases c with
    | false => exact ⟨.ex q.eS [some (.obj (some a) q.D []), some z, some (.tup args)], by simp [B_Document___init___D, rhoM, h1, h2, hz], rfl, rfl⟩
    | true => exact ⟨.nx [some (.obj (some a) q.D [.tup args, z]), some z, some (.tup args)], by simp [B_Document___init___D, rhoM, h1, h2, hz], rfl, rfl⟩
theorem insP_D {xs r items : List D} {p : D} (hp : noOpn p = some p) (h1 : M_is_integer [p, .int 0, .int (xs.length : Nat)] = some (.bl false)) :
    F_Document_insert_D q (.tup xs :: r) p items = some (.ex q.eP (.tup xs :: r)) := sF_eq fun a => ⟨.ex q.eP [some (.obj (some a) q.D (.tup xs :: r)), some p, some (.tup items), none], by simp [B_Document_insert_D, rhoM, h1, hp], rfl, rfl⟩
theorem insI_D {xs r items : List D} {i : Nat} (hi : i ≤ xs.length) (hx : xs.length ≤ 1000) (hl : items.length ≤ 1000) (h1 : M_is_integer [.int (i : Nat), .int 0, .int (xs.length : Nat)] = some (.bl true)) (h2 : M_is_document [.tup (xs.take i ++ items ++ xs.drop i)] = some (.bl false)) :
    F_Document_insert_D q (.tup xs :: r) (.int (i : Nat)) items = some (.ex q.eI (.tup xs :: r)) := sF_eq fun a => by
  have c1 : cutD xs none (some (i : Int)) = xs.take i := cut_lo3
  have c2 : cutD xs (some (i : Int)) none = xs.drop i := cut_hi3 hi
  refine ⟨.ex q.eI [some (.obj (some a) q.D (.tup xs :: r)), some (.int (i : Nat)), some (.tup items), some (.tup (xs.take i ++ items ++ xs.drop i))], ?_, rfl, rfl⟩
  have s1 : gAdd (.tup (xs.take i)) (.tup items) = some (.tup (xs.take i ++ items)) := gAdd_tt (by simp; omega)
  have s2 : gAdd (.tup (xs.take i ++ items)) (.tup (xs.drop i)) = some (.tup (xs.take i ++ items ++ xs.drop i)) := gAdd_tt (by simp; omega)
  simp [B_Document_insert_D, rhoM, h1, gSl, c1, c2, h2, s1, s2, -List.append_assoc, -List.length_append]
theorem insO_D {xs r items fds : List D} {i : Nat} (hi : i ≤ xs.length) (hx : xs.length ≤ 1000) (hl : items.length ≤ 1000) (h1 : M_is_integer [.int (i : Nat), .int 0, .int (xs.length : Nat)] = some (.bl true)) (h2 : M_is_document [.tup (xs.take i ++ items ++ xs.drop i)] = some (.bl true))
    (h3 : F_Document_change_D q (.tup xs :: r) [.tup (xs.take i ++ items ++ xs.drop i)] = some (.ok .non fds)) : F_Document_insert_D q (.tup xs :: r) (.int (i : Nat)) items = some (.ok .non fds) := sF_eq fun a => by
  have c1 : cutD xs none (some (i : Int)) = xs.take i := cut_lo3
  have c2 : cutD xs (some (i : Int)) none = xs.drop i := cut_hi3 hi
  refine ⟨.nx [some (.obj (some a) q.D fds), some (.int (i : Nat)), some (.tup items), some (.tup (xs.take i ++ items ++ xs.drop i))], ?_, rfl, rfl⟩
  have s1 : gAdd (.tup (xs.take i)) (.tup items) = some (.tup (xs.take i ++ items)) := gAdd_tt (by simp; omega)
  have s2 : gAdd (.tup (xs.take i ++ items)) (.tup (xs.drop i)) = some (.tup (xs.take i ++ items ++ xs.drop i)) := gAdd_tt (by simp; omega)
  simp [B_Document_insert_D, rhoM, h1, gSl, c1, c2, h2, h3, s1, s2, -List.append_assoc, -List.length_append]
theorem remP_D {xs r : List D} {p : D} (hp : noOpn p = some p) (h1 : M_is_integer [p, .int 0, .int ((xs.length : Nat) - 1)] = some (.bl false)) :
    F_Document_remove_D q (.tup xs :: r) [p] = some (.ex q.eP (.tup xs :: r)) := mF_eq fun a => ⟨.ex q.eP [some (.obj (some a) q.D (.tup xs :: r)), some p, none, none], by simp [B_Document_remove_D, rhoM, h1, hp], rfl, rfl⟩
theorem remI_D {xs r : List D} {i : Nat} (hi : i < xs.length) (hx : xs.length ≤ 1000) (h1 : M_is_integer [.int (i : Nat), .int 0, .int ((xs.length : Nat) - 1)] = some (.bl true)) (h2 : M_is_document [.tup (xs.take i ++ xs.drop (i + 1))] = some (.bl false)) :
    F_Document_remove_D q (.tup xs :: r) [.int (i : Nat)] = some (.ex q.eI (.tup xs :: r)) := mF_eq fun a => by
  have c1 : cutD xs none (some (i : Int)) = xs.take i := cut_lo3
  have c2 : cutD xs (some ((i : Int) + 1)) none = xs.drop (i + 1) := cut_hi3 (k := i + 1) hi
  refine ⟨.ex q.eI [some (.obj (some a) q.D (.tup xs :: r)), some (.int (i : Nat)), some (.tup (xs.take i ++ xs.drop (i + 1))), none], ?_, rfl, rfl⟩
  have s2 : gAdd (.tup (xs.take i)) (.tup (xs.drop (i + 1))) = some (.tup (xs.take i ++ xs.drop (i + 1))) := gAdd_tt (by simp; omega)
  simp [B_Document_remove_D, rhoM, h1, gSl, c1, c2, h2, s2, -List.length_append]
theorem remO_D {xs r fds : List D} {i : Nat} {x : D} (hi : xs[i]? = some x) (hx : xs.length ≤ 1000) (hn : noOpn x = some x) (hno : ∀ ys, x ≠ .opn ys) (h1 : M_is_integer [.int (i : Nat), .int 0, .int ((xs.length : Nat) - 1)] = some (.bl true)) (h2 : M_is_document [.tup (xs.take i ++ xs.drop (i + 1))] = some (.bl true))
    (h3 : F_Document_change_D q (.tup xs :: r) [.tup (xs.take i ++ xs.drop (i + 1))] = some (.ok .non fds)) : F_Document_remove_D q (.tup xs :: r) [.int (i : Nat)] = some (.ok x fds) := mF_eq fun a => by
  have hl := (List.getElem?_eq_some_iff.mp hi).1
  have c1 : cutD xs none (some (i : Int)) = xs.take i := cut_lo3
  have c2 : cutD xs (some ((i : Int) + 1)) none = xs.drop (i + 1) := cut_hi3 (k := i + 1) hl
  have hx1 : gIdx (.tup xs) (.int (i : Nat)) = some x := PL.atI_nat hi
  refine ⟨.ro [some (.obj (some a) q.D fds), some (.int (i : Nat)), some (.tup (xs.take i ++ xs.drop (i + 1))), some x] x, ?_, ⟨rfl, hno⟩, rfl⟩
  have s2 : gAdd (.tup (xs.take i)) (.tup (xs.drop (i + 1))) = some (.tup (xs.take i ++ xs.drop (i + 1))) := gAdd_tt (by simp; omega)
  simp [B_Document_remove_D, rhoM, h1, gSl, c1, c2, h2, h3, s2, hx1, hn, -List.length_append]

theorem rd_content_R {x : List D} {r : List D} : F_Document_content_R q (.tup x :: r) [] = some (.inl (.tup x)) := rF_eq fun a => by simp [B_Document_content_R, rhoM]; rfl
theorem rd_len_R {x : List D} {r : List D} : F_Document___len___R q (.tup x :: r) [] = some (.inl (.int (x.length : Nat))) := rF_eq fun a => by simp [B_Document___len___R, rhoM]; rfl
theorem change0_R {x : D} {r : List D} {ys : List D} : F_Document_change_R q (x :: r) [.tup ys] = some (.ok .non (.tup ys :: r)) := mF_eq fun a => ⟨.nx [some (.obj (some a) q.R (.tup ys :: r)), some (.tup ys)], by simp [B_Document_change_R, rhoM], rfl, rfl⟩
theorem init0_R {args : List D} {z : D} {b c : Bool} (hz : noOpn z = some z) (h1 : M_is_document [.tup args] = some (.bl b)) (h2 : M_is_integer [z, .int 1, .int 10000] = some (.bl c)) :
    F_Document___init___R q args (some z) = some (if b = false then .ex q.eI [] else if c = false then .ex q.eS [] else .ok .non [.tup args, z]) := iF_eq fun a => by
  cases b with
  | false => exact ⟨.ex q.eI [some (.obj (some a) q.R []), some z, some (.tup args)], by simp [B_Document___init___R, rhoM, h1], rfl, rfl⟩
  | true =>
    cases c with
    | false => exact ⟨.ex q.eS [some (.obj (some a) q.R []), some z, some (.tup args)], by simp [B_Document___init___R, rhoM, h1, h2, hz], rfl, rfl⟩
    | true => exact ⟨.nx [some (.obj (some a) q.R [.tup args, z]), some z, some (.tup args)], by simp [B_Document___init___R, rhoM, h1, h2, hz], rfl, rfl⟩

theorem rd_names_R {d : Doc} {r : List D} (h : d.length ≤ 1000000) : F_Document_names_R q (docD d :: r) [] = some (.inl (.tup ((names d).map .str))) := rF_eq fun a => by simp [B_Document_names_R, rhoM, M_names h]; rfl
theorem change_R {d d' : Doc} {z : D} {ν : List Int} (h : d.length ≤ 1000) (h' : d'.length ≤ 1000) (hn : (names d).Nodup) (hl : (names d).length = ν.length) :
    F_Draft_change_R q [docD d, z, numD ν] [docD d'] = some (.ok .non [docD d', z, numD ((names d').map (keep (names d) ν))]) := mF_eq fun a => by
  have r1 := rd_names_R (q := q) (d := d) (r := [z, numD ν]) (by omega)
  have r2 := rd_names_R (q := q) (d := d') (r := [z, numD ν]) (by omega)
  have n1 := names_len d
  have n2 := names_len d'
  have dcg := dc_go5 (a := some (.obj (some a) q.R [docD d, z, numD ν])) (b := some (docD d')) (names d) ν [] [] (by simpa using hn) rfl
  have e0 : dicN [] [] = [] := rfl
  rw [e0, List.nil_append] at dcg
  have sm : small (zipD ((names d).map .str) (ν.map .int)).length = true := small_le' (by rw [zipD_len]; simp; omega)
  have sm2 : small (names d').length = true := small_le' (by omega)
  have cg : compGo (tName 3) cYes (fDget (fVarW 2) (fVar 3) (fC (.int 1))) [some (.obj (some a) q.R [docD d', z, numD ν]), some (docD d'), some (.dic (dicN (names d) ν)), none, none] ((names d').map .str) = some (((names d').map (keep (names d) ν)).map .int) := by
    rw [compGo_typed D.str (fun s => [some (.obj (some a) q.R [docD d', z, numD ν]), some (docD d'), some (.dic (dicN (names d) ν)), some (.str s), none]) (fun _ => true) (fun s => .int (keep (names d) ν s)) (names d') (fun _ _ => rfl) (fun _ _ => rfl) (fun s _ _ => by simp [look_keep hl])]
    rw [show (names d').filter (fun _ => true) = names d' by simp, List.map_map]; rfl
  have g1 : gRead q.R 0 (F_Document_names_R q) (.obj (some a) q.R [docD d, z, numD ν]) [] = some (.tup ((names d).map .str)) := read_ok r1
  have g2 : gRead q.R 0 (F_Document_names_R q) (.obj (some a) q.R [docD d', z, numD ν]) [] = some (.tup ((names d').map .str)) := read_ok r2
  have ch : F_Document_change_R q [docD d, z, numD ν] [docD d'] = some (.ok .non [docD d', z, numD ν]) := change0_R
  refine ⟨.nx [some (.obj (some a) q.R [docD d', z, numD ((names d').map (keep (names d) ν))]), some (docD d'), some (.dic (dicN (names d) ν)), none, none], ?_, rfl, rfl⟩
  have zp : zip2 (.tup ((names d).map .str)) (numD ν) = some (zipD ((names d).map .str) (ν.map .int)) := by simp [zip2]
  have tn : D.tup (((names d').map (keep (names d) ν)).map .int) = numD ((names d').map (keep (names d) ν)) := rfl
  simp [B_Draft_change_R, rhoM, g1, g2, zp, sm, sm2, wipeR, dcg, ch, cg, tn, -List.map_map]
theorem init_R {d : Doc} {z : D} {c : Bool} (hz : noOpn z = some z) (hd : d.length ≤ 1000) (h1 : M_is_document [docD d] = some (.bl true)) (h2 : M_is_integer [z, .int 1, .int 10000] = some (.bl c)) :
    F_Draft___init___R q (d.map itemD) (some z) = some (if c = false then .ex q.eS [] else .ok .non [docD d, z, numD (List.replicate (names d).length 1)]) := iF_eq fun a => by
  have h0 := init0_R (q := q) (args := d.map itemD) hz h1 h2
  have r1 := rd_names_R (q := q) (d := d) (r := [z]) (by omega)
  have sm : small d.length = true := small_le' (by omega)
  have n1 := names_len d
  have g1 : gRead q.R 0 (F_Document_names_R q) (.obj (some a) q.R [.tup (d.map itemD), z]) [] = some (.tup ((names d).map .str)) := read_ok r1
  cases c with
  | false => exact ⟨.ex q.eS [some (.obj (some a) q.R []), some z, some (.tup (d.map itemD))], by simp [B_Draft___init___R, rhoM, h0, sm, hz], rfl, rfl⟩
  | true => exact ⟨.nx [some (.obj (some a) q.R [docD d, z, numD (List.replicate (names d).length 1)]), some z, some (.tup (d.map itemD))], by
      simp [B_Draft___init___R, rhoM, h0, sm, hz, g1, docD, gMul_one (show (names d).length ≤ 1000 by omega)], rfl, rfl⟩
theorem initI_R {args : List D} {z : D} {c : Bool} (hz : noOpn z = some z) (hl : args.length ≤ 1000) (h1 : M_is_document [.tup args] = some (.bl false)) (h2 : M_is_integer [z, .int 1, .int 10000] = some (.bl c)) :
    F_Draft___init___R q args (some z) = some (.ex q.eI []) := iF_eq fun a => by
  have h0 := init0_R (q := q) (args := args) hz h1 h2
  have sm : small args.length = true := small_le' (by omega)
  exact ⟨.ex q.eI [some (.obj (some a) q.R []), some z, some (.tup args)], by simp [B_Draft___init___R, rhoM, h0, sm, hz], rfl, rfl⟩
theorem insP_R {xs r items : List D} {p : D} (hp : noOpn p = some p) (h1 : M_is_integer [p, .int 0, .int (xs.length : Nat)] = some (.bl false)) :
    F_Document_insert_R q (.tup xs :: r) p items = some (.ex q.eP (.tup xs :: r)) := sF_eq fun a => ⟨.ex q.eP [some (.obj (some a) q.R (.tup xs :: r)), some p, some (.tup items), none], by simp [B_Document_insert_R, rhoM, h1, hp], rfl, rfl⟩
theorem insI_R {xs r items : List D} {i : Nat} (hi : i ≤ xs.length) (hx : xs.length ≤ 1000) (hl : items.length ≤ 1000) (h1 : M_is_integer [.int (i : Nat), .int 0, .int (xs.length : Nat)] = some (.bl true)) (h2 : M_is_document [.tup (xs.take i ++ items ++ xs.drop i)] = some (.bl false)) :
    F_Document_insert_R q (.tup xs :: r) (.int (i : Nat)) items = some (.ex q.eI (.tup xs :: r)) := sF_eq fun a => by
  have c1 : cutD xs none (some (i : Int)) = xs.take i := cut_lo3
  have c2 : cutD xs (some (i : Int)) none = xs.drop i := cut_hi3 hi
  refine ⟨.ex q.eI [some (.obj (some a) q.R (.tup xs :: r)), some (.int (i : Nat)), some (.tup items), some (.tup (xs.take i ++ items ++ xs.drop i))], ?_, rfl, rfl⟩
  have s1 : gAdd (.tup (xs.take i)) (.tup items) = some (.tup (xs.take i ++ items)) := gAdd_tt (by simp; omega)
  have s2 : gAdd (.tup (xs.take i ++ items)) (.tup (xs.drop i)) = some (.tup (xs.take i ++ items ++ xs.drop i)) := gAdd_tt (by simp; omega)
  simp [B_Document_insert_R, rhoM, h1, gSl, c1, c2, h2, s1, s2, -List.append_assoc, -List.length_append]
theorem insO_R {xs r items fds : List D} {i : Nat} (hi : i ≤ xs.length) (hx : xs.length ≤ 1000) (hl : items.length ≤ 1000) (h1 : M_is_integer [.int (i : Nat), .int 0, .int (xs.length : Nat)] = some (.bl true)) (h2 : M_is_document [.tup (xs.take i ++ items ++ xs.drop i)] = some (.bl true))
    (h3 : F_Draft_change_R q (.tup xs :: r) [.tup (xs.take i ++ items ++ xs.drop i)] = some (.ok .non fds)) : F_Document_insert_R q (.tup xs :: r) (.int (i : Nat)) items = some (.ok .non fds) := sF_eq fun a => by
  have c1 : cutD xs none (some (i : Int)) = xs.take i := cut_lo3
  have c2 : cutD xs (some (i : Int)) none = xs.drop i := cut_hi3 hi
  refine ⟨.nx [some (.obj (some a) q.R fds), some (.int (i : Nat)), some (.tup items), some (.tup (xs.take i ++ items ++ xs.drop i))], ?_, rfl, rfl⟩
  have s1 : gAdd (.tup (xs.take i)) (.tup items) = some (.tup (xs.take i ++ items)) := gAdd_tt (by simp; omega)
  have s2 : gAdd (.tup (xs.take i ++ items)) (.tup (xs.drop i)) = some (.tup (xs.take i ++ items ++ xs.drop i)) := gAdd_tt (by simp; omega)
  simp [B_Document_insert_R, rhoM, h1, gSl, c1, c2, h2, h3, s1, s2, -List.append_assoc, -List.length_append]
theorem remP_R {xs r : List D} {p : D} (hp : noOpn p = some p) (h1 : M_is_integer [p, .int 0, .int ((xs.length : Nat) - 1)] = some (.bl false)) :
    F_Document_remove_R q (.tup xs :: r) [p] = some (.ex q.eP (.tup xs :: r)) := mF_eq fun a => ⟨.ex q.eP [some (.obj (some a) q.R (.tup xs :: r)), some p, none, none], by simp [B_Document_remove_R, rhoM, h1, hp], rfl, rfl⟩
theorem remI_R {xs r : List D} {i : Nat} (hi : i < xs.length) (hx : xs.length ≤ 1000) (h1 : M_is_integer [.int (i : Nat), .int 0, .int ((xs.length : Nat) - 1)] = some (.bl true)) (h2 : M_is_document [.tup (xs.take i ++ xs.drop (i + 1))] = some (.bl false)) :
    F_Document_remove_R q (.tup xs :: r) [.int (i : Nat)] = some (.ex q.eI (.tup xs :: r)) := mF_eq fun a => by
  have c1 : cutD xs none (some (i : Int)) = xs.take i := cut_lo3
  have c2 : cutD xs (some ((i : Int) + 1)) none = xs.drop (i + 1) := cut_hi3 (k := i + 1) hi
  refine ⟨.ex q.eI [some (.obj (some a) q.R (.tup xs :: r)), some (.int (i : Nat)), some (.tup (xs.take i ++ xs.drop (i + 1))), none], ?_, rfl, rfl⟩
  have s2 : gAdd (.tup (xs.take i)) (.tup (xs.drop (i + 1))) = some (.tup (xs.take i ++ xs.drop (i + 1))) := gAdd_tt (by simp; omega)
  simp [B_Document_remove_R, rhoM, h1, gSl, c1, c2, h2, s2, -List.length_append]
theorem remO_R {xs r fds : List D} {i : Nat} {x : D} (hi : xs[i]? = some x) (hx : xs.length ≤ 1000) (hn : noOpn x = some x) (hno : ∀ ys, x ≠ .opn ys) (h1 : M_is_integer [.int (i : Nat), .int 0, .int ((xs.length : Nat) - 1)] = some (.bl true)) (h2 : M_is_document [.tup (xs.take i ++ xs.drop (i + 1))] = some (.bl true))
    (h3 : F_Draft_change_R q (.tup xs :: r) [.tup (xs.take i ++ xs.drop (i + 1))] = some (.ok .non fds)) : F_Document_remove_R q (.tup xs :: r) [.int (i : Nat)] = some (.ok x fds) := mF_eq fun a => by
  have hl := (List.getElem?_eq_some_iff.mp hi).1
  have c1 : cutD xs none (some (i : Int)) = xs.take i := cut_lo3
  have c2 : cutD xs (some ((i : Int) + 1)) none = xs.drop (i + 1) := cut_hi3 (k := i + 1) hl
  have hx1 : gIdx (.tup xs) (.int (i : Nat)) = some x := PL.atI_nat hi
  refine ⟨.ro [some (.obj (some a) q.R fds), some (.int (i : Nat)), some (.tup (xs.take i ++ xs.drop (i + 1))), some x] x, ?_, ⟨rfl, hno⟩, rfl⟩
  have s2 : gAdd (.tup (xs.take i)) (.tup (xs.drop (i + 1))) = some (.tup (xs.take i ++ xs.drop (i + 1))) := gAdd_tt (by simp; omega)
  simp [B_Document_remove_R, rhoM, h1, gSl, c1, c2, h2, h3, s2, hx1, hn, -List.length_append]
end
end PL
/-! ### part PV3 -/
namespace PL
open PySem L2 PLaw

/-! ### documents of items -/
/-- an item whatever is said of it -/
def Gd (it : Item) : Prop := strOk it.name = true ∧ isIt (itemD it) = true ∧ okV 2 (itemD it) = true
def docOk (d : Doc) : Bool := decide (1 ≤ d.length) && decide (d.length ≤ 30) && docB d
theorem isdoc_len {xs : List D} (h : ¬ (1 ≤ xs.length ∧ xs.length ≤ 30)) : M_is_document [.tup xs] = some (.bl false) := by
  apply run_rt
  by_cases h1 : 1 ≤ xs.length
  · have h2 : ¬ ((xs.length : Int) ≤ 30) := by omega
    have h3 : (1 : Int) ≤ (xs.length : Int) := by omega
    simp [B_is_document, h2, h3]
  · have h3 : ¬ ((1 : Int) ≤ (xs.length : Int)) := by omega
    simp [B_is_document, h3]
theorem isdoc_ok {d : Doc} (hg : ∀ it ∈ d, Gd it) : M_is_document [docD d] = some (.bl (docOk d)) := by
  by_cases h : 1 ≤ d.length ∧ d.length ≤ 30
  · rw [M_isdoc h.1 h.2 (fun it hi => (hg it hi).1) (fun it hi => by rw [M_isitem (hg it hi).2.2, (hg it hi).2.1])]
    simp [docOk, h.1, h.2]
  · rw [show docD d = .tup (d.map itemD) from rfl, isdoc_len (by simpa using h)]
    have : docOk d = false := by
      unfold docOk
      by_cases h1 : 1 ≤ d.length
      · have h2 : ¬ d.length ≤ 30 := fun z => h ⟨h1, z⟩
        simp [h2]
      · simp [h1]
    rw [this]
theorem isdoc_bad {xs : List D} {n : Nat} (hv : ∀ x ∈ xs, okV n x = true) (hb : ∃ x ∈ xs, isIt x = false) : M_is_document [.tup xs] = some (.bl false) := by
  by_cases h : 1 ≤ xs.length ∧ xs.length ≤ 30
  · have c0 : compGo (tName 1) cYes (fz (fCall 1 M_is_item (fsCons (fVar 1) fsNil))) [some (.tup xs), none, none] xs = some ((xs.map isIt).map .bl) := by
      have := compGo_typed (t := tName 1) (c := cYes) (e := fz (fCall 1 M_is_item (fsCons (fVar 1) fsNil))) (ρ := [some (D.tup xs), none, none]) (fun x : D => x) (fun x => [some (.tup xs), some x, none]) (fun _ => true) (fun x => .bl (isIt x)) xs (fun _ _ => rfl) (fun _ _ => rfl) (fun x hx _ => by
        simp [(no_V (hv x hx)).1, M_isitem (hv x hx)])
      rw [List.map_id'] at this
      rw [this, show xs.filter (fun _ => true) = xs by simp, List.map_map]; rfl
    have hsm : small xs.length = true := small_le' (by omega)
    have ha : (xs.map isIt).all id = false := by
      obtain ⟨x, hx, e⟩ := hb
      rw [Bool.eq_false_iff]
      intro z
      rw [List.all_eq_true] at z
      have := z _ (List.mem_map.mpr ⟨x, hx, rfl⟩)
      rw [e] at this; cases this
    have g1 : (1 : Int) ≤ (xs.length : Int) := by omega
    have g2 : (xs.length : Int) ≤ 30 := by omega
    have hga : gAll (.lst ((xs.map isIt).map .bl)) = some (.bl false) := by
      simp only [gAll, boolsOf_map, Option.map_some, ha]
    apply run_rt
    simp [B_is_document, g1, g2, hsm, wipeR, c0, hga, -List.map_map]
  · exact isdoc_len h
/-- removals of doubles: as many as names -/
theorem srt_len (l : List Str) : (srtS (ddT l)).length = (ddT l).length := (srtS_perm _).length_eq
end PL
/-! ### part PV4 -/
namespace PL
open PySem L2 PLaw

/-! ### running object mirrors piece by piece -/
def Goes (g : Rho → Option Fo) (ρ : Rho) (P : Rho → Prop) : Prop := ∃ ρ2, g ρ = some (.nx ρ2) ∧ P ρ2
section
variable {g1 g2 : Rho → Option Fo} {g : Rho → Option Fl} {ρ ρ1 : Rho} {P P' : Rho → Prop} {c : Rho → Option Bool} {fb : Rho → Option Eb} {fm : Rho → Option Em} {i : Nat}
theorem goes_seq (h1 : g1 ρ = some (.nx ρ1)) (h2 : Goes g2 ρ1 P) : Goes (oSeq g1 g2) ρ P := by
  obtain ⟨ρ2, h3, h4⟩ := h2
  exact ⟨ρ2, by simp [h1, h3], h4⟩
theorem goes_up (h1 : g ρ = some (.nx ρ1)) (h2 : Goes g2 ρ1 P) : Goes (oSeq (oUp g) g2) ρ P := goes_seq (by simp [h1]) h2
theorem goes_seq' (h1 : Goes g1 ρ P') (h2 : ∀ ρ1, P' ρ1 → Goes g2 ρ1 P) : Goes (oSeq g1 g2) ρ P := by
  obtain ⟨ρ1, h3, h4⟩ := h1
  exact goes_seq h3 (h2 ρ1 h4)
theorem goes_nil (h : P ρ) : Goes oNil ρ P := ⟨ρ, rfl, h⟩
theorem goes_if {k : Bool} (hc : c ρ = some k) (h1 : k = true → Goes g1 ρ P) (h2 : k = false → Goes g2 ρ P) : Goes (oIf c g1 g2) ρ P := by
  cases k with
  | true => obtain ⟨ρ2, h3, h4⟩ := h1 rfl; exact ⟨ρ2, by simp [hc, h3], h4⟩
  | false => obtain ⟨ρ2, h3, h4⟩ := h2 rfl; exact ⟨ρ2, by simp [hc, h3], h4⟩
/-- a test that is false throughout -/
theorem goes_not (hc : fb ρ = some (.ok false ρ1)) (h2 : Goes g2 ρ1 P) : Goes (oIfZ fb g1 g2) ρ P := by
  obtain ⟨ρ2, h3, h4⟩ := h2
  exact ⟨ρ2, by simp [hc, h3], h4⟩
theorem goes_no {g3 : Rho → Option Fo} (hc : fb ρ = some (.ok false ρ1)) (h : Goes g2 ρ1 P) : Goes (oSeq (oIfZ fb g3 oNil) g2) ρ P := goes_seq (by simp [hc]) h
theorem goes_inv {P : Rho → Prop} (h : Goes (oSeq g1 g2) ρ P) : ∃ ρ1, g1 ρ = some (.nx ρ1) ∧ Goes g2 ρ1 P := by
  obtain ⟨ρ2, h1, h2⟩ := h
  rw [o_seq] at h1
  obtain ⟨fo, h3, h4⟩ := Option.bind_eq_some_iff.mp h1
  cases fo with
  | nx ρ1 => exact ⟨ρ1, h3, ρ2, h4, h2⟩
  | _ => cases h4
theorem goes_two {g3 : Rho → Option Fo} (h : Goes (oSeq g1 (oSeq g2 oNil)) ρ P') (h2 : ∀ ρ1, P' ρ1 → Goes g3 ρ1 P) : Goes (oSeq g1 (oSeq g2 g3)) ρ P := by
  obtain ⟨ρ1, h3, h4⟩ := goes_inv h
  obtain ⟨ρ2, h5, ρ3, h6, h7⟩ := goes_inv h4
  cases h6
  exact goes_seq h3 (goes_seq h5 (h2 _ h7))
theorem goes_ofor {src : Rho → Option (List D)} {t : Tgt} {l : List D} {ρ2 : Rho} (hs : src ρ = some l) (h1 : ofGo t g1 l ρ = some (.nx ρ2)) : oFor src t g1 ρ = some (.nx ρ2) := by simp [hs, h1]
end
theorem rng1_0 {n : Int} (h : 0 ≤ n ∧ n < 2 ^ 62) : rng1 [.int n] = some ((List.range n.toNat).map fun i : Nat => .int (i : Nat)) := by
  rw [rng1_eq h]; simp only [Int.zero_add]
theorem tup_doc (d : Doc) : D.tup (d.map itemD) = docD d := rfl
theorem compGo_all {t : Tgt} {e : Rho → Option D} {ρ : Rho} (P : D → Prop) : ∀ l : List D, (∀ x ∈ l, ∃ ρ1 d, t x ρ = some ρ1 ∧ e ρ1 = some d ∧ P d) → ∃ ds, compGo t cYes e ρ l = some ds ∧ ds.length = l.length ∧ ∀ d ∈ ds, P d
  | [], _ => ⟨[], rfl, rfl, by simp⟩
  | x :: l, h => by
    obtain ⟨ρ1, d, h1, h2, h3⟩ := h x (by simp)
    obtain ⟨ds, h4, h5, h6⟩ := compGo_all P l fun y hy => h y (by simp [hy])
    refine ⟨d :: ds, ?_, by simp [h5], fun z hz => ?_⟩
    · simp [compGo, h1, h2, h4]
    · rcases List.mem_cons.mp hz with rfl | hz
      · exact h3
      · exact h6 z hz
theorem items_ex : ∀ {ds : List D}, (∀ d ∈ ds, ∃ it : Item, d = itemD it ∧ Gd it) → ∃ row : Doc, ds = row.map itemD ∧ ∀ it ∈ row, Gd it
  | [], _ => ⟨[], rfl, by simp⟩
  | d :: ds, h => by
    obtain ⟨it, rfl, h1⟩ := h d (by simp)
    obtain ⟨row, rfl, h2⟩ := items_ex (ds := ds) fun y hy => h y (by simp [hy])
    exact ⟨it :: row, rfl, fun z hz => by
      rcases List.mem_cons.mp hz with rfl | hz
      · exact h1
      · exact h2 z hz⟩

/-! ### objects of both classes -/
def AdOk (q : Ad) : Prop := q.D ≠ q.R ∧ [q.eI, q.eS, q.eT, q.eP, q.eL, q.eU].Nodup
instance (q : Ad) : Decidable (AdOk q) := inferInstanceAs (Decidable (_ ∧ _))
section
variable {q : Ad} (hq : AdOk q)
include hq
theorem txt_I : q.txt q.eI = some "contents value" := by simp [Ad.txt]
theorem txt_S : q.txt q.eS = some "pagesize value" := by
  have h := hq.2
  simp only [List.nodup_cons, List.mem_cons, not_or] at h
  simp [Ad.txt, Ne.symm h.1.1]
theorem txt_T : q.txt q.eT = some "wording value" := by
  have h := hq.2
  simp only [List.nodup_cons, List.mem_cons, not_or] at h
  simp [Ad.txt, Ne.symm h.1.2.1, Ne.symm h.2.1.1]
theorem txt_P : q.txt q.eP = some "spot value" := by
  have h := hq.2
  simp only [List.nodup_cons, List.mem_cons, not_or] at h
  simp [Ad.txt, Ne.symm h.1.2.2.1, Ne.symm h.2.1.2.1, Ne.symm h.2.2.1.1]
theorem txt_L : q.txt q.eL = some "many value" := by
  have h := hq.2
  simp only [List.nodup_cons, List.mem_cons, not_or] at h
  simp [Ad.txt, Ne.symm h.1.2.2.2.1, Ne.symm h.2.1.2.2.1, Ne.symm h.2.2.1.2.1, Ne.symm h.2.2.2.1.1]
theorem txt_U : q.txt q.eU = some "unknown value" := by
  have h := hq.2
  simp only [List.nodup_cons, List.mem_cons, not_or] at h
  simp [Ad.txt, Ne.symm h.1.2.2.2.2.1, Ne.symm h.2.1.2.2.2.1, Ne.symm h.2.2.1.2.2.1, Ne.symm h.2.2.2.1.2.1, Ne.symm h.2.2.2.2.1.1]
end
/-- the object's attributes: the document d, pages of z, remembered numbers of the marks -/
def Ob (q : Ad) (C : Addr) (fds : List D) (d : Doc) (z : D) : Prop := (C = q.R ∧ ∃ ν : List Int, fds = [docD d, z, numD ν] ∧ (names d).length = ν.length) ∨ (C = q.D ∧ fds = [docD d, z])
/-- what either class's method does -/
def Run (q : Ad) (C : Addr) (FR FD : List D → List D → Option Mo) (fds args : List D) (r : Mo) : Prop := (C = q.R ∧ FR fds args = some r) ∨ (C = q.D ∧ FD fds args = some r)
def RunS (q : Ad) (C : Addr) (FR FD : List D → D → List D → Option Mo) (fds : List D) (d : D) (args : List D) (r : Mo) : Prop := (C = q.R ∧ FR fds d args = some r) ∨ (C = q.D ∧ FD fds d args = some r)
def upM (i : Nat) (ρ : Rho) (o : Option Addr) (C : Addr) : Mo → Eo
  | .ok d es => .ok d (ρ.set i (some (.obj o C es)))
  | .ex E es => .ex E (ρ.set i (some (.obj o C es)))
section
variable {q : Ad} {C : Addr} {FR FD : List D → List D → Option Mo} {SR SD : List D → D → List D → Option Mo} {fds args : List D} {r : Mo} {ρ : Rho} {o : Option Addr} {fs : Rho → Option (List D)} {i n : Nat} {d z : D}
theorem zm2 (hq : AdOk q) (h3 : ρ[i]? = some (some (.obj o C fds))) (hfs : fs ρ = some args) (hn : args.length = n) (h : Run q C FR FD fds args r) : zElse (zMeth i q.R n FR fs) (zMeth i q.D n FD fs) ρ = some (upM i ρ o C r) := by
  rcases h with ⟨rfl, h⟩ | ⟨rfl, h⟩
  · have : zMeth i q.R n FR fs ρ = some (upM i ρ o q.R r) := by
      simp only [z_meth, h3, if_true, hfs, Option.bind_some, hn, h, Option.map_some]
      cases r <;> rfl
    rw [z_else, this]; rfl
  · have h1 : zMeth i q.R n FR fs ρ = none := by
      simp only [z_meth, h3, hq.1, if_false]
    have h2 : zMeth i q.D n FD fs ρ = some (upM i ρ o q.D r) := by
      simp only [z_meth, h3, if_true, hfs, Option.bind_some, hn, h, Option.map_some]
      cases r <;> rfl
    rw [z_else, h1, h2]; rfl
theorem zs2 (hq : AdOk q) (h3 : ρ[i]? = some (some (.obj o C fds))) (hfs : fs ρ = some (d :: args)) (hn : args.length ≤ 1000) (h : RunS q C SR SD fds d args r) : zElse (zMethS i q.R SR fs) (zMethS i q.D SD fs) ρ = some (upM i ρ o C r) := by
  have hs : small args.length = true := small_le' (by omega)
  rcases h with ⟨rfl, h⟩ | ⟨rfl, h⟩
  · have : zMethS i q.R SR fs ρ = some (upM i ρ o q.R r) := by
      simp only [z_meths, h3, if_true, hfs, Option.bind_some, hs, h, Option.map_some]
      cases r <;> rfl
    rw [z_else, this]; rfl
  · have h1 : zMethS i q.R SR fs ρ = none := by
      simp only [z_meths, h3, hq.1, if_false]
    have h2 : zMethS i q.D SD fs ρ = some (upM i ρ o q.D r) := by
      simp only [z_meths, h3, if_true, hfs, Option.bind_some, hs, h, Option.map_some]
      cases r <;> rfl
    rw [z_else, h1, h2]; rfl
/-- told -/
theorem told_ok {f : Rho → Option Eo} {es : List D} (h : f ρ = some (upM i ρ o C (.ok d es))) : zTold q.txt f ρ = some (.ok (.tup [d, .str ""]) (ρ.set i (some (.obj o C es)))) := by simp [h, upM]
theorem told_ex {f : Rho → Option Eo} {es : List D} {E : Addr} {t : Str} (h : f ρ = some (upM i ρ o C (.ex E es))) (ht : q.txt E = some t) : zTold q.txt f ρ = some (.ok (.tup [.non, .str t]) (ρ.set i (some (.obj o C es)))) := by simp [h, upM, ht]
/-- readers -/
theorem rd2 {GR GD : List D → List D → Option Ro} {f : Rho → Option D} (hq : AdOk q) (hf : f ρ = some (.obj o C fds)) (h : (C = q.R ∧ GR fds [] = some (Sum.inl d)) ∨ (C = q.D ∧ GD fds [] = some (Sum.inl d))) : zElse (fRead q.R 0 GR f fsNil) (fRead q.D 0 GD f fsNil) ρ = some d := by
  rcases h with ⟨rfl, h⟩ | ⟨rfl, h⟩
  · simp [hf, read_ok h]
  · simp [hf, read_ok h, read_no hq.1]
theorem len2 {GR GD : List D → List D → Option Ro} {f : Rho → Option D} {k : Nat} (hq : AdOk q) (hf : f ρ = some (.obj o C fds)) (hk : k < 1000000) (h : (C = q.R ∧ GR fds [] = some (Sum.inl (.int (k : Nat)))) ∨ (C = q.D ∧ GD fds [] = some (Sum.inl (.int (k : Nat))))) : zElse (fLenO q.R GR f) (fLenO q.D GD f) ρ = some (.int (k : Nat)) := by
  have hl : isLen (.int (k : Nat)) = some (.int (k : Nat)) := by rw [isLen_int, if_pos hk]
  rcases h with ⟨rfl, h⟩ | ⟨rfl, h⟩
  · have h1 : fLenO q.R GR f ρ = some (.int (k : Nat)) := by rw [f_leno, f_read, hf, Option.bind_some, e_fsNil, Option.bind_some, read_ok h, Option.bind_some, hl]
    rw [z_else, h1]; rfl
  · have h1 : fLenO q.R GR f ρ = none := by rw [f_leno, f_read, hf, Option.bind_some, e_fsNil, Option.bind_some, read_no hq.1, Option.bind_none]
    have h2 : fLenO q.D GD f ρ = some (.int (k : Nat)) := by rw [f_leno, f_read, hf, Option.bind_some, e_fsNil, Option.bind_some, read_ok h, Option.bind_some, hl]
    rw [z_else, h1, h2]; rfl
variable {dd : Doc}
theorem Ob.content (ob : Ob q C fds dd z) : (C = q.R ∧ F_Document_content_R q fds [] = some (Sum.inl (docD dd))) ∨ (C = q.D ∧ F_Document_content_D q fds [] = some (Sum.inl (docD dd))) := by
  rcases ob with ⟨rfl, ν, rfl, _⟩ | ⟨rfl, rfl⟩
  · exact .inl ⟨rfl, rd_content_R⟩
  · exact .inr ⟨rfl, rd_content_D⟩
theorem Ob.len (ob : Ob q C fds dd z) : (C = q.R ∧ F_Document___len___R q fds [] = some (Sum.inl (.int (dd.length : Nat)))) ∨ (C = q.D ∧ F_Document___len___D q fds [] = some (Sum.inl (.int (dd.length : Nat)))) := by
  rcases ob with ⟨rfl, ν, rfl, _⟩ | ⟨rfl, rfl⟩
  · refine .inl ⟨rfl, ?_⟩
    have := rd_len_R (q := q) (x := dd.map itemD) (r := [z, numD ν])
    rw [List.length_map] at this; exact this
  · refine .inr ⟨rfl, ?_⟩
    have := rd_len_D (q := q) (x := dd.map itemD) (r := [z])
    rw [List.length_map] at this; exact this
/-- the content is changed -/
theorem Ob.change {d' : Doc} (ob : Ob q C fds dd z) (hd : dd.length ≤ 1000) (hd' : d'.length ≤ 1000) (hn : (names dd).Nodup) : ∃ fds', Run q C (F_Draft_change_R q) (F_Document_change_D q) fds [docD d'] (.ok .non fds') ∧ Ob q C fds' d' z := by
  rcases ob with ⟨rfl, ν, rfl, hl⟩ | ⟨rfl, rfl⟩
  · exact ⟨_, .inl ⟨rfl, change_R hd hd' hn hl⟩, .inl ⟨rfl, _, rfl, by simp⟩⟩
  · exact ⟨_, .inr ⟨rfl, change0_D⟩, .inr ⟨rfl, rfl⟩⟩
theorem Ob.shape (ob : Ob q C fds dd z) : ∃ r, fds = .tup (dd.map itemD) :: r := by
  rcases ob with ⟨rfl, ν, rfl, _⟩ | ⟨rfl, rfl⟩
  · exact ⟨_, rfl⟩
  · exact ⟨_, rfl⟩
theorem Ob.cls (ob : Ob q C fds dd z) : C = q.R ∨ C = q.D := by
  rcases ob with ⟨rfl, _⟩ | ⟨rfl, _⟩
  · exact .inl rfl
  · exact .inr rfl
/-- insert: an odd place -/
theorem Ob.insP {p : D} {items : List D} (ob : Ob q C fds dd z) (hp : okV 3 p = true) (h : isI 0 dd.length p = false) : RunS q C (F_Document_insert_R q) (F_Document_insert_D q) fds p items (.ex q.eP fds) := by
  obtain ⟨r, rfl⟩ := ob.shape
  have h1 : M_is_integer [p, .int 0, .int ((dd.map itemD).length : Nat)] = some (.bl false) := by rw [M_isint hp, List.length_map, h]
  rcases ob.cls with rfl | rfl
  · exact .inl ⟨rfl, insP_R (no_V hp).1 h1⟩
  · exact .inr ⟨rfl, insP_D (no_V hp).1 h1⟩
/-- .. items that form no document -/
theorem Ob.insI {k : Nat} {items : List D} (ob : Ob q C fds dd z) (hd : dd.length ≤ 1000) (hk : k ≤ dd.length) (hl : items.length ≤ 1000) (h2 : M_is_document [.tup ((dd.map itemD).take k ++ items ++ (dd.map itemD).drop k)] = some (.bl false)) : RunS q C (F_Document_insert_R q) (F_Document_insert_D q) fds (.int (k : Nat)) items (.ex q.eI fds) := by
  obtain ⟨r, rfl⟩ := ob.shape
  have h1 : M_is_integer [.int (k : Nat), .int 0, .int ((dd.map itemD).length : Nat)] = some (.bl true) := by
    rw [M_isint (n := 0) (by rfl), List.length_map]
    have e2 : (k : Int) ≤ (dd.length : Int) := by omega
    simp [isI, e2]
  rcases ob.cls with rfl | rfl
  · exact .inl ⟨rfl, insI_R (by simpa using hk) (by simpa using hd) hl h1 h2⟩
  · exact .inr ⟨rfl, insI_D (by simpa using hk) (by simpa using hd) hl h1 h2⟩
theorem Ob.insO {k : Nat} {row : Doc} (ob : Ob q C fds dd z) (hd : dd.length ≤ 1000) (hk : k ≤ dd.length) (hl : row.length ≤ 1000) (hn : (names dd).Nodup) (hl2 : dd.length + row.length ≤ 1000) (h2 : M_is_document [docD (dd.take k ++ row ++ dd.drop k)] = some (.bl true)) :
    ∃ fds', RunS q C (F_Document_insert_R q) (F_Document_insert_D q) fds (.int (k : Nat)) (row.map itemD) (.ok .non fds') ∧ Ob q C fds' (dd.take k ++ row ++ dd.drop k) z := by
  have h1 : M_is_integer [.int (k : Nat), .int 0, .int ((dd.map itemD).length : Nat)] = some (.bl true) := by
    rw [M_isint (n := 0) (by rfl), List.length_map]
    have e2 : (k : Int) ≤ (dd.length : Int) := by omega
    simp [isI, e2]
  have e : D.tup ((dd.map itemD).take k ++ row.map itemD ++ (dd.map itemD).drop k) = docD (dd.take k ++ row ++ dd.drop k) := by simp [docD]
  obtain ⟨fds', hr, ob'⟩ := ob.change (d' := dd.take k ++ row ++ dd.drop k) hd (by simp; omega) hn
  refine ⟨fds', ?_, ob'⟩
  obtain ⟨r, rfl⟩ := ob.shape
  rw [← e] at hr h2
  rcases hr with ⟨rfl, hr⟩ | ⟨rfl, hr⟩
  · exact .inl ⟨rfl, insO_R (by simpa using hk) (by simpa using hd) (by simpa using hl) h1 h2 hr⟩
  · exact .inr ⟨rfl, insO_D (by simpa using hk) (by simpa using hd) (by simpa using hl) h1 h2 hr⟩
/-- remove -/
theorem Ob.remP {p : D} (ob : Ob q C fds dd z) (hp : okV 3 p = true) (h : isI 0 ((dd.length : Nat) - 1) p = false) : Run q C (F_Document_remove_R q) (F_Document_remove_D q) fds [p] (.ex q.eP fds) := by
  obtain ⟨r, rfl⟩ := ob.shape
  have h1 : M_is_integer [p, .int 0, .int (((dd.map itemD).length : Nat) - 1)] = some (.bl false) := by rw [M_isint hp, List.length_map, h]
  rcases ob.cls with rfl | rfl
  · exact .inl ⟨rfl, remP_R (no_V hp).1 h1⟩
  · exact .inr ⟨rfl, remP_D (no_V hp).1 h1⟩
theorem rem_in {k : Nat} (hk : k < dd.length) : M_is_integer [.int (k : Nat), .int 0, .int (((dd.map itemD).length : Nat) - 1)] = some (.bl true) := by
  rw [M_isint (n := 0) (by rfl), List.length_map]
  have e2 : (k : Int) ≤ (dd.length : Int) - 1 := by omega
  simp [isI, e2]
theorem rem_doc {k : Nat} : D.tup ((dd.map itemD).take k ++ (dd.map itemD).drop (k + 1)) = docD (dd.take k ++ dd.drop (k + 1)) := by simp [docD]
theorem Ob.remI {k : Nat} (ob : Ob q C fds dd z) (hd : dd.length ≤ 1000) (hk : k < dd.length) (h2 : M_is_document [docD (dd.take k ++ dd.drop (k + 1))] = some (.bl false)) : Run q C (F_Document_remove_R q) (F_Document_remove_D q) fds [.int (k : Nat)] (.ex q.eI fds) := by
  obtain ⟨r, rfl⟩ := ob.shape
  rw [← rem_doc] at h2
  rcases ob.cls with rfl | rfl
  · exact .inl ⟨rfl, remI_R (by simpa using hk) (by simpa using hd) (rem_in hk) h2⟩
  · exact .inr ⟨rfl, remI_D (by simpa using hk) (by simpa using hd) (rem_in hk) h2⟩
theorem Ob.remO {k : Nat} {it : Item} (ob : Ob q C fds dd z) (hd : dd.length ≤ 1000) (hk : dd[k]? = some it) (hn : (names dd).Nodup) (h2 : M_is_document [docD (dd.take k ++ dd.drop (k + 1))] = some (.bl true)) :
    ∃ fds', Run q C (F_Document_remove_R q) (F_Document_remove_D q) fds [.int (k : Nat)] (.ok (itemD it) fds') ∧ Ob q C fds' (dd.take k ++ dd.drop (k + 1)) z := by
  obtain ⟨fds', hr, ob'⟩ := ob.change (d' := dd.take k ++ dd.drop (k + 1)) hd (by simp; omega) hn
  refine ⟨fds', ?_, ob'⟩
  obtain ⟨r, rfl⟩ := ob.shape
  have hk2 := (List.getElem?_eq_some_iff.mp hk).1
  have hi : (dd.map itemD)[k]? = some (itemD it) := by rw [List.getElem?_map, hk]; rfl
  rw [← rem_doc] at hr h2
  rcases hr with ⟨rfl, hr⟩ | ⟨rfl, hr⟩
  · exact .inl ⟨rfl, remO_R hi (by simpa using hd) no_item (by cases it <;> simp [itemD]) (rem_in hk2) h2 hr⟩
  · exact .inr ⟨rfl, remO_D hi (by simpa using hd) no_item (by cases it <;> simp [itemD]) (rem_in hk2) h2 hr⟩
end
/-! ### a value is equal to itself -/
mutual
theorem eqD_refl : ∀ (n : Nat) (d : D), okD n d = true → eqD d d = true
  | _, .non, _ => by simp [eqD]
  | _, .bl _, _ => by simp [eqD]
  | _, .int _, _ => by simp [eqD]
  | _, .str _, _ => by simp [eqD]
  | n + 1, .tup xs, h => by simp only [okD] at h; simp only [eqD]; exact eqL_refl n xs h
  | n + 1, .lst xs, h => by simp only [okD] at h; simp only [eqD]; exact eqL_refl n xs h
  | 0, .tup xs, h => by simp [okD] at h
  | 0, .lst xs, h => by simp [okD] at h
  | n, .opn xs, h => by cases n <;> simp [okD] at h
  | n, .scr xs, h => by cases n <;> simp [okD] at h
  | n, .dic xs, h => by cases n <;> simp [okD] at h
  | n, .obj _ _ _, h => by cases n <;> simp [okD] at h
  | n, .adr _, h => by cases n <;> simp [okD] at h
theorem eqL_refl : ∀ (n : Nat) (ds : List D), okL n ds = true → eqL ds ds = true
  | _, [], _ => by simp [eqL]
  | n, d :: ds, h => by
    simp only [okL, Bool.and_eq_true] at h
    simp only [eqL, eqD_refl n d h.1, eqL_refl n ds h.2, Bool.and_self]
end
theorem ne_self {x : D} (h : okD DEEP x = true) : gNe x x = some (.bl false) := by rw [gNe_eq h h, eqD_refl _ _ h]; rfl
theorem eq_self {x : D} (h : okD DEEP x = true) : gEq x x = some (.bl true) := by rw [gEq_eq h h, eqD_refl _ _ h]
theorem ok_gdoc {d : Doc} (h : ∀ it ∈ d, Gd it) : okD DEEP (docD d) = true := by
  rw [show DEEP = (DEEP - 1) + 1 by decide, docD, okT]
  intro x hx
  obtain ⟨it, hi, rfl⟩ := List.mem_map.mp hx
  exact ok_item (n := DEEP - 2) (h it hi).1
theorem ok_pair {x y : D} (h1 : okD (DEEP - 1) x = true) (h2 : okD (DEEP - 1) y = true) : okD DEEP (.tup [x, y]) = true := by
  rw [show DEEP = (DEEP - 1) + 1 by decide, okT]
  intro z hz
  rcases List.mem_cons.mp hz with rfl | hz
  · exact h1
  · rw [List.mem_singleton.mp hz]; exact h2
theorem zb_ne {f : Rho → Option Eo} {g : Rho → Option D} {x : D} {ρ ρ1 : Rho} (h : f ρ = some (.ok x ρ1)) (hg : g ρ1 = some x) (hx : okD DEEP x = true) : zbOp gNe f g ρ = some (.ok false ρ1) := by simp [h, hg, ne_self hx]
theorem sl_lo {d : Doc} {n : Nat} : gSl (docD d) none (some (n : Int)) = some (docD (d.take n)) := by simp only [docD, gSl, cut_lo3, List.map_take]
theorem sl_hi {d : Doc} {n : Nat} (h : n ≤ d.length) : gSl (docD d) (some (n : Int)) none = some (docD (d.drop n)) := by simp only [docD, gSl, cut_hi3 (xs := d.map itemD) (k := n) (by simpa using h), List.map_drop]
theorem nat_of {i : Int} (h : 0 ≤ i) : ∃ n : Nat, i = (n : Int) := ⟨i.toNat, by omega⟩
theorem chk2 {A B L M : Rho → Option D} {g : Rho → Option Fl} {x y : D} {ρ : Rho} (h1 : A ρ = some x) (h2 : B ρ = some x) (hx : okD DEEP x = true) (h3 : L ρ = some y) (h4 : M ρ = some y) (hy : okD DEEP y = true) : gIf (fOr (tb (b2 gNe A B)) (tb (b2 gNe L M))) g gNil ρ = some (.nx ρ) := by
  simp [h1, h2, h3, h4, ne_self hx, ne_self hy]
theorem chk1 {A B : Rho → Option D} {x : D} {ρ : Rho} (h1 : A ρ = some x) (h2 : B ρ = some x) (hx : okD DEEP x = true) : tb (b2 gNe A B) ρ = some false := by simp [h1, h2, ne_self hx]
theorem sl_hi1 {d : Doc} {n : Nat} (h : n < d.length) : gSl (docD d) (some ((n : Int) + 1)) none = some (docD (d.drop (n + 1))) := by
  have := sl_hi (d := d) (n := n + 1) h
  rwa [Int.natCast_add, Int.natCast_one] at this
theorem ix_doc {d : Doc} {n : Nat} {it : Item} (h : d[n]? = some it) : gIdx (docD d) (.int (n : Nat)) = some (itemD it) := by
  have hi : (d.map itemD)[n]? = some (itemD it) := by rw [List.getElem?_map, h]; rfl
  exact PL.atI_nat hi
theorem zor_no {fb : Rho → Option Eb} {c : Rho → Option Bool} {ρ ρ1 : Rho} (h1 : fb ρ = some (.ok false ρ1)) (h2 : c ρ1 = some false) : zOr fb (zbUp c) ρ = some (.ok false ρ1) := by simp [h1, h2]
theorem zb_isnot {f : Rho → Option Eo} {ρ ρ1 : Rho} (h : f ρ = some (.ok .non ρ1)) : zbOp gIsNot f (fC .non) ρ = some (.ok false ρ1) := by
  have : gIsNot .non .non = some (.bl false) := rfl
  simp [h, this]
end PL
/-! ### part Ma_k15 -/
namespace PLaw
open PySem L2 PL

/-! ### the law's own test of a document -/
theorem lvalid {d : Doc} (hg : ∀ it ∈ d, Gd it) (hl : d.length ≤ 1000) : M__law_valid [docD d] = some (.bl (docOk d)) := by
  have hsm : small d.length = true := small_le' (by omega)
  have hs : ∀ it ∈ d, strOk it.name = true := fun it h => (hg it h).1
  have hno := namesOk hs
  have hnl := names_len d
  have c1 : compGo (tName 2) (tb (b2 gEq (b2 gIdx (fVarW 2) (fC (.int 0))) (fC (.str "mark")))) (b2 gIdx (fVarW 2) (fC (.int 1))) [some (docD d), none, none] (d.map itemD) = some ((names d).map .str) := by
    rw [compGo_typed itemD (fun x => [some (docD d), none, some (itemD x)]) Item.isMark (fun x => .str x.name) d (fun _ _ => rfl) (fun x _ => by simp) (fun x _ hx => by
      cases x <;> simp [Item.isMark] at hx
      simp [Item.name])]
    simp [names]
  have c3 : compGo (tName 2) (fAnd (tb (b2 gEq (b2 gIdx (fVarW 2) (fC (.int 0))) (fC (.str "ref")))) (tb (b2 gNotIn (b2 gIdx (fVarW 2) (fC (.int 1))) (fVarW 1)))) (fVar 2) [some (docD d), some (.lst ((names d).map .str)), none] (d.map itemD) = some ((d.filter fun it => it.isRef && !decide (it.name ∈ names d)).map itemD) := by
    rw [compGo_typed itemD (fun x => [some (docD d), some (.lst ((names d).map .str)), some (itemD x)]) (fun it => it.isRef && !decide (it.name ∈ names d)) itemD d (fun _ _ => rfl) (fun x hx => by
      cases x with
      | ref s =>
        have := nin_strs (s := s) (hs _ hx) hno
        simp [Item.isRef, Item.name, this]
        try exact decide_eq_decide.mpr Iff.rfl
      | _ => simp [Item.isRef]) (fun _ _ _ => by simp)]
  have o2 : ∀ l : Doc, (∀ it ∈ l, it ∈ d) → okL 11 (l.map itemD) = true := fun l hl => by
    rw [okL_iff]; intro x hx; obtain ⟨it, hi, rfl⟩ := List.mem_map.mp hx; exact ok_item (n := 10) (hs it (hl it hi))
  have e2 := eq_nil (o2 (d.filter fun it => it.isRef && !decide (it.name ∈ names d)) fun it h => (List.mem_filter.mp h).1)
  have hlN : gLen (.lst ((names d).map .str)) = some (.int ((names d).length : Nat)) := by simp [gLen]
  have m2 : decide ((d.filter fun it => it.isRef && !decide (it.name ∈ names d)).map itemD = []) = (d.filter Item.isRef).all fun it => decide (it.name ∈ names d) := by
    rw [Bool.eq_iff_iff, decide_eq_true_iff, List.map_eq_nil_iff, List.filter_eq_nil_iff, List.all_eq_true]
    constructor
    · intro h it hi
      obtain ⟨h1, h2⟩ := List.mem_filter.mp hi
      have := h it h1
      simp [h2] at this
      simpa using this
    · intro h it hi
      by_cases hr : it.isRef = true
      · have := h it (List.mem_filter.mpr ⟨hi, hr⟩)
        simp [hr]
        simpa using this
      · simp [hr]
  obtain ⟨B, hB⟩ : ∃ B, B = (d.filter Item.isRef).all fun it => decide (it.name ∈ names d) := ⟨_, rfl⟩
  rw [← hB] at m2
  rw [m2] at e2
  have hdB : docB d = (decide ((names d).length ≤ 8) && decide (names d).Nodup && B) := by rw [hB]; rfl
  apply run_rt
  by_cases q1 : 1 ≤ d.length ∧ d.length ≤ 30
  · have g1 : (1 : Int) ≤ (d.length : Nat) := by omega
    have g2 : ((d.length : Nat) : Int) ≤ 30 := by omega
    by_cases q2 : (names d).length ≤ 8
    · have q2' : ¬ (8 : Int) < ((names d).length : Nat) := by omega
      have hso : gSortSet (.lst ((names d).map .str)) = some (.opn ((srtS (ddT (names d))).map .str)) := by
        have : (names d).length < 64 := by omega
        simp only [gSortSet, strsOf_map, Option.bind_some, this, if_true]
      have hdd := len_ddT (names d)
      have hsl := srt_len (names d)
      by_cases q3 : (names d).Nodup
      · have e3 := hdd.2.mpr q3
        have q4 : ¬ ((srtS (ddT (names d))).length : Int) < ((names d).length : Nat) := by omega
        simp [B__law_valid, g1, g2, hsm, wipeR, c1, hlN, q2', hso, q4, c3, e2, docOk, hdB, q1.1, q1.2, q2, q3, -List.map_map]
      · have e3 : (ddT (names d)).length < (names d).length := by
          rcases Nat.lt_or_ge (ddT (names d)).length (names d).length with h | h
          · exact h
          · exact absurd (hdd.2.mp (Nat.le_antisymm hdd.1 h)) q3
        have q4 : ((srtS (ddT (names d))).length : Int) < ((names d).length : Nat) := by omega
        simp [B__law_valid, g1, g2, hsm, wipeR, c1, hlN, q2', hso, q4, docOk, hdB, q1.1, q1.2, q2, q3, -List.map_map]
    · have q2' : (8 : Int) < ((names d).length : Nat) := by omega
      simp [B__law_valid, g1, g2, hsm, wipeR, c1, hlN, q2', docOk, hdB, q1.1, q1.2, q2, -List.map_map]
  · have e0 : docOk d = false := by
      unfold docOk
      by_cases h1 : 1 ≤ d.length
      · have h2 : ¬ d.length ≤ 30 := fun z => q1 ⟨h1, z⟩
        simp [h2]
      · simp [h1]
    rw [e0]
    by_cases h1 : 1 ≤ d.length
    · have h2 : ¬ ((d.length : Int) ≤ 30) := by omega
      have h3 : (1 : Int) ≤ (d.length : Int) := by omega
      simp [B__law_valid, hsm, wipeR, c1, hlN, h2, h3, -List.map_map]
    · have h3 : ¬ ((1 : Int) ≤ (d.length : Int)) := by omega
      simp [B__law_valid, hsm, wipeR, c1, hlN, h3, -List.map_map]

/-! ### _law_put -/
section
variable {q : Ad}
theorem put_run {C : Addr} {S : List D → D → List D → Option Mo} {B : Rho → Option Fo} {fds row : List D} {p : D} {r : Mo}
    (hB : B = (oSeq (oIf (tb (b2 gEq (u1 gLen (fVarW 2)) (fC (.int 1)))) (oSeq (oRetZ (zMethS 0 C S (fsCons (fVar 1) (fsCons (b2 gIdx (fVarW 2) (fC (.int 0))) fsNil)))) oNil) oNil)
      (oSeq (oIf (tb (b2 gEq (u1 gLen (fVarW 2)) (fC (.int 2)))) (oSeq (oRetZ (zMethS 0 C S (fsCons (fVar 1) (fsCons (b2 gIdx (fVarW 2) (fC (.int 0))) (fsCons (b2 gIdx (fVarW 2) (fC (.int 1))) fsNil))))) oNil) oNil)
      (oSeq (oRetZ (zMethS 0 C S (fsCons (fVar 1) (fsCons (b2 gIdx (fVarW 2) (fC (.int 0))) (fsCons (b2 gIdx (fVarW 2) (fC (.int 1))) (fsCons (b2 gIdx (fVarW 2) (fC (.int 2))) fsNil)))))) oNil))))
    (hp : noOpn p = some p) (h1 : 1 ≤ row.length) (h3 : row.length ≤ 3) (hr : S fds p row = some r) (hok : (∃ es, r = .ok .non es) ∨ ∃ E es, r = .ex E es) : mF 3 C B fds [p, .tup row] = some r := mF_eq fun a => by
  subst hB
  match row, h1, h3 with
  | [x], _, _ =>
    have i0 : gIdx (.tup [x]) (.int 0) = some x := rfl
    have sm : small 1 = true := small_le' (by omega)
    rcases hok with ⟨es, rfl⟩ | ⟨E, es, rfl⟩
    · exact ⟨.ro [some (.obj (some a) C es), some p, some (.tup [x])] .non, by simp [rhoM, lenT, hp, i0, sm, hr], ⟨rfl, by simp⟩, rfl⟩
    · exact ⟨.ex E [some (.obj (some a) C es), some p, some (.tup [x])], by simp [rhoM, lenT, hp, i0, sm, hr], rfl, rfl⟩
  | [x, y], _, _ =>
    have i0 : gIdx (.tup [x, y]) (.int 0) = some x := rfl
    have i1 : gIdx (.tup [x, y]) (.int 1) = some y := rfl
    have sm : small 2 = true := small_le' (by omega)
    rcases hok with ⟨es, rfl⟩ | ⟨E, es, rfl⟩
    · exact ⟨.ro [some (.obj (some a) C es), some p, some (.tup [x, y])] .non, by simp [rhoM, lenT, hp, i0, i1, sm, hr], ⟨rfl, by simp⟩, rfl⟩
    · exact ⟨.ex E [some (.obj (some a) C es), some p, some (.tup [x, y])], by simp [rhoM, lenT, hp, i0, i1, sm, hr], rfl, rfl⟩
  | [x, y, z], _, _ =>
    have i0 : gIdx (.tup [x, y, z]) (.int 0) = some x := rfl
    have i1 : gIdx (.tup [x, y, z]) (.int 1) = some y := rfl
    have i2 : gIdx (.tup [x, y, z]) (.int 2) = some z := rfl
    have sm : small 3 = true := small_le' (by omega)
    rcases hok with ⟨es, rfl⟩ | ⟨E, es, rfl⟩
    · exact ⟨.ro [some (.obj (some a) C es), some p, some (.tup [x, y, z])] .non, by simp [rhoM, lenT, hp, i0, i1, i2, sm, hr], ⟨rfl, by simp⟩, rfl⟩
    · exact ⟨.ex E [some (.obj (some a) C es), some p, some (.tup [x, y, z])], by simp [rhoM, lenT, hp, i0, i1, i2, sm, hr], rfl, rfl⟩
theorem put_of {C : Addr} {fds row : List D} {p : D} {r : Mo} (hp : noOpn p = some p) (h1 : 1 ≤ row.length) (h3 : row.length ≤ 3) (hok : (∃ es, r = .ok .non es) ∨ ∃ E es, r = .ex E es) (h : RunS q C (F_Document_insert_R q) (F_Document_insert_D q) fds p row r) :
    Run q C (F__law_put_R q) (F__law_put_D q) fds [p, .tup row] r := by
  rcases h with ⟨rfl, h⟩ | ⟨rfl, h⟩
  · exact .inl ⟨rfl, put_run (S := F_Document_insert_R q) rfl hp h1 h3 h hok⟩
  · exact .inr ⟨rfl, put_run (S := F_Document_insert_D q) rfl hp h1 h3 h hok⟩

/-! ### the rows -/
abbrev NM : D := .lst [.str "a", .str "b", .str "cc"]
theorem nm_get {t : Int} (h0 : 0 ≤ t) (h3 : t < 3) : ∃ s : Str, gIdx NM (.int t) = some (.str s) ∧ strOk s = true ∧ isNm (.str s) = true ∧ s.length ≤ 1000 := by
  rcases (by omega : t = 0 ∨ t = 1 ∨ t = 2) with rfl | rfl | rfl
  · exact ⟨"a", rfl, by decide +kernel, by decide +kernel, by decide +kernel⟩
  · exact ⟨"b", rfl, by decide +kernel, by decide +kernel, by decide +kernel⟩
  · exact ⟨"cc", rfl, by decide +kernel, by decide +kernel, by decide +kernel⟩
theorem gd_text {n : Int} (h : 0 ≤ n ∧ n ≤ 1000000) : Gd (.text n) := ⟨s_break, by simp [itemD, isIt, isI, h.1, h.2], by
  rw [itemD, vT]; intro x hx
  rcases List.mem_cons.mp hx with rfl | hx
  · exact vS.mpr ⟨s_text, by decide +kernel⟩
  · rw [List.mem_singleton.mp hx]; exact vI⟩
theorem gd_brk : Gd .brk := ⟨s_break, by decide +kernel, by decide +kernel⟩
theorem gd_mark {s : Str} (h : strOk s = true ∧ isNm (.str s) = true ∧ s.length ≤ 1000) : Gd (.mark s) := ⟨h.1, by
  have : ¬ (("mark" : Str) = "text") := by decide +kernel
  simp [itemD, isIt, h.2.1, this], by
  rw [itemD, vT]; intro x hx
  rcases List.mem_cons.mp hx with rfl | hx
  · exact vS.mpr ⟨s_mark, by decide +kernel⟩
  · rw [List.mem_singleton.mp hx]; exact vS.mpr ⟨h.1, h.2.2⟩⟩
theorem gd_ref {s : Str} (h : strOk s = true ∧ isNm (.str s) = true ∧ s.length ≤ 1000) : Gd (.ref s) := ⟨h.1, by
  have : ¬ (("ref" : Str) = "text") := by decide +kernel
  simp [itemD, isIt, h.2.1, this], by
  rw [itemD, vT]; intro x hx
  rcases List.mem_cons.mp hx with rfl | hx
  · exact vS.mpr ⟨s_ref, by decide +kernel⟩
  · rw [List.mem_singleton.mp hx]; exact vS.mpr ⟨h.1, h.2.2⟩⟩
/-- the invariant of the edits -/
def St (q : Ad) (ns : List Int) (i : Int) (ds : List Int) (ρ : Rho) : Prop := ∃ (d : Doc) (C : Addr) (fds : List D) (x5 x6 x7 x8 x9 x10 x11 x12 x13 x14 x15 : Option D),
  ρ = [some (.scr ns), some (.int i), some (.lst (ds.map .int)), some (.obj none C fds), some (docD d), x5, x6, x7, x8, x9, x10, x11, x12, x13, x14, x15] ∧ Ob q C fds d (.int 5) ∧ docOk d = true ∧ ∀ it ∈ d, Gd it
theorem docOk_len {d : Doc} (h : docOk d = true) : 1 ≤ d.length ∧ d.length ≤ 30 := by
  simp only [docOk, Bool.and_eq_true, decide_eq_true_eq] at h
  exact ⟨h.1.1, h.1.2⟩
theorem docOk_nd {d : Doc} (h : docOk d = true) : (names d).Nodup := by
  simp only [docOk, docB, Bool.and_eq_true, decide_eq_true_eq] at h
  exact h.2.1.2
theorem okT_ {x : D} {t : Str} (hx : okD 11 x = true) (ht : strOk t = true) : okD DEEP (.tup [x, .str t]) = true := ok_pair hx (by rw [okS]; exact ht)
theorem s_spot : strOk "spot value" = true := by decide +kernel
theorem s_cont : strOk "contents value" = true := by decide +kernel
theorem s_emp : strOk "" = true := by decide +kernel
theorem ne_spot : ¬ (("spot value" : Str) = "") := by decide +kernel
theorem ne_cont : ¬ (("contents value" : Str) = "") := by decide +kernel
theorem isI_of {lo hi : Int} {p : D} (h : isI lo hi p = true) : ∃ i : Int, p = .int i ∧ lo ≤ i ∧ i ≤ hi := by
  cases p <;> simp [isI] at h
  exact ⟨_, rfl, h⟩
end
end PLaw
/-! ### part Mb_k15 -/
namespace PLaw
open PySem L2 PL
section
variable {q : Ad} {ns : List Int} {idx : Int} {ds : List Int}
/-- what an edit leaves -/
def Af (q : Ad) (ns : List Int) (idx : Int) (ds : List Int) (d : Doc) (x5 x6 x7 x8 x9 x10 x11 x15 : Option D) (ρ : Rho) : Prop :=
  ∃ (C : Addr) (fds : List D) (x12 : Option D) (e : Doc) (t : Str), ρ = [some (.scr ns), some (.int idx), some (.lst (ds.map .int)), some (.obj none C fds), some (docD d), x5, x6, x7, x8, x9, x10, x11, x12, some (docD e), some (.str t), x15] ∧
    strOk t = true ∧ Ob q C fds (if t = "" then e else d) (.int 5) ∧ docOk (if t = "" then e else d) = true ∧ ∀ it ∈ (if t = "" then e else d), Gd it
theorem step (hq : AdOk q) (h0 : ∀ x ∈ ds, 0 ≤ x) (hl : ds.length = 120) {k : Nat} (hk : k < 24) {ρ : Rho} (hS : St q ns idx ds ρ) : ∃ ρ1, (tName 5) (.int (0 + (k : Nat))) ρ = some ρ1 ∧ Goes (L_law_0 q) ρ1 (St q ns idx ds) := by
  obtain ⟨d, C, fds, x5, x6, x7, x8, x9, x10, x11, x12, x13, x14, x15, rfl, ob, hd, hg⟩ := hS
  refine ⟨[some (.scr ns), some (.int idx), some (.lst (ds.map .int)), some (.obj none C fds), some (docD d), some (.int (k : Nat)), x6, x7, x8, x9, x10, x11, x12, x13, x14, x15], by simp, ?_⟩
  have hdl := docOk_len hd
  have hnd := docOk_nd hd
  have d10 : gIdx (.lst (ds.map .int)) (.int (10 + (k : Nat))) = some (.int (atZ ds (10 + (k : Nat)))) := ix_ints (by omega) (by omega)
  have d40 : gIdx (.lst (ds.map .int)) (.int (40 + (k : Nat))) = some (.int (atZ ds (40 + (k : Nat)))) := ix_ints (by omega) (by omega)
  have d65 : gIdx (.lst (ds.map .int)) (.int (65 + (k : Nat))) = some (.int (atZ ds (65 + (k : Nat)))) := ix_ints (by omega) (by omega)
  have d90 : gIdx (.lst (ds.map .int)) (.int (90 + (k : Nat))) = some (.int (atZ ds (90 + (k : Nat)))) := ix_ints (by omega) (by omega)
  have g10 := h0 _ (atZ_mem (ns := ds) (i := 10 + (k : Nat)) (by omega) (by omega))
  have g40 := h0 _ (atZ_mem (ns := ds) (i := 40 + (k : Nat)) (by omega) (by omega))
  have g65 := h0 _ (atZ_mem (ns := ds) (i := 65 + (k : Nat)) (by omega) (by omega))
  have g90 := h0 _ (atZ_mem (ns := ds) (i := 90 + (k : Nat)) (by omega) (by omega))
  generalize atZ ds (10 + (k : Nat)) = g at *
  generalize atZ ds (40 + (k : Nat)) = g4 at *
  generalize atZ ds (65 + (k : Nat)) = g6 at *
  generalize atZ ds (90 + (k : Nat)) = g9 at *
  obtain ⟨s1, i1, o1⟩ := nm_get (t := g % 3) (by omega) (by omega)
  obtain ⟨s2, i2, o2⟩ := nm_get (t := g / 3 % 3) (by omega) (by omega)
  unfold L_law_0
  refine goes_up (ρ1 := [some (.scr ns), some (.int idx), some (.lst (ds.map .int)), some (.obj none C fds), some (docD d), some (.int (k : Nat)), some (.int g), some NM, x8, x9, x10, x11, x12, x13, x14, x15]) (by simp [d10]) ?_
  refine goes_up (ρ1 := [some (.scr ns), some (.int idx), some (.lst (ds.map .int)), some (.obj none C fds), some (docD d), some (.int (k : Nat)), some (.int g), some NM, some (.lst [itemD (.text (g % 9)), itemD (.mark s1), itemD (.ref s2), itemD .brk]), x9, x10, x11, x12, x13, x14, x15]) (by
    simp (disch := omega) [mod_int, div_int, i1, i2, itemD]) ?_
  -- the row
  have hrow : ∃ row : Doc, compGo (tName 10) cYes (b2 gIdx (fVarW 8) (b2 gMod (b2 gFdiv (b2 gIdx (fVarW 2) (fz (b2 gAdd (fC (.int 40)) (fVarW 5)))) (b2 gIdx (fz (fLst (fsCons (fC (.int 1)) (fsCons (fC (.int 4)) (fsCons (fC (.int 16)) fsNil))))) (fVarW 10))) (fC (.int 4)))) [some (.scr ns), some (.int idx), some (.lst (ds.map .int)), some (.obj none C fds), some (docD d), some (.int (k : Nat)), some (.int g), some NM, some (.lst [itemD (.text (g % 9)), itemD (.mark s1), itemD (.ref s2), itemD .brk]), x9, none, x11, x12, x13, x14, x15] ((List.range (1 + g % 3).toNat).map fun i : Nat => .int (i : Nat)) = some (row.map itemD) ∧ 1 ≤ row.length ∧ row.length ≤ 3 ∧ ∀ it ∈ row, Gd it := by
    obtain ⟨es, e1, e2, e3⟩ := compGo_all (t := tName 10) (e := b2 gIdx (fVarW 8) (b2 gMod (b2 gFdiv (b2 gIdx (fVarW 2) (fz (b2 gAdd (fC (.int 40)) (fVarW 5)))) (b2 gIdx (fz (fLst (fsCons (fC (.int 1)) (fsCons (fC (.int 4)) (fsCons (fC (.int 16)) fsNil))))) (fVarW 10))) (fC (.int 4)))) (ρ := [some (.scr ns), some (.int idx), some (.lst (ds.map .int)), some (.obj none C fds), some (docD d), some (.int (k : Nat)), some (.int g), some NM, some (.lst [itemD (.text (g % 9)), itemD (.mark s1), itemD (.ref s2), itemD .brk]), x9, none, x11, x12, x13, x14, x15]) (fun d => ∃ it : Item, d = itemD it ∧ Gd it) ((List.range (1 + g % 3).toNat).map fun i : Nat => .int (i : Nat)) (fun x hx => by
      obtain ⟨j, hj, rfl⟩ := List.mem_map.mp hx
      have hj := List.mem_range.mp hj
      have hp : ∃ w : Int, 0 < w ∧ w < 1073741824 ∧ gIdx (.lst [.int 1, .int 4, .int 16]) (.int (j : Nat)) = some (.int w) := by
        rcases (by omega : j = 0 ∨ j = 1 ∨ j = 2) with rfl | rfl | rfl
        · exact ⟨1, by omega, by omega, rfl⟩
        · exact ⟨4, by omega, by omega, rfl⟩
        · exact ⟨16, by omega, by omega, rfl⟩
      obtain ⟨w, w0, w1, w2⟩ := hp
      have hm : 0 ≤ g4 / w % 4 ∧ g4 / w % 4 < 4 := by omega
      have hsm : ∃ it : Item, gIdx (.lst [itemD (.text (g % 9)), itemD (.mark s1), itemD (.ref s2), itemD .brk]) (.int (g4 / w % 4)) = some (itemD it) ∧ Gd it := by
        rcases (by omega : g4 / w % 4 = 0 ∨ g4 / w % 4 = 1 ∨ g4 / w % 4 = 2 ∨ g4 / w % 4 = 3) with e | e | e | e <;> rw [e]
        · exact ⟨_, rfl, gd_text (by omega)⟩
        · exact ⟨_, rfl, gd_mark o1⟩
        · exact ⟨_, rfl, gd_ref o2⟩
        · exact ⟨_, rfl, gd_brk⟩
      obtain ⟨it, q1, q2⟩ := hsm
      exact ⟨_, _, rfl, by simp (disch := omega) [d40, w2, mod_int, div_int, w0, w1, q1], _, rfl, q2⟩)
    obtain ⟨row, rfl, hr⟩ := items_ex e3
    simp at e2
    exact ⟨row, e1, by omega, by omega, hr⟩
  obtain ⟨row, hrow, r1, r3, hgr⟩ := hrow
  have hrg : rng1 [.int (1 + g % 3)] = _ := rng1_0 (by omega)
  have hsr : small (1 + g % 3).toNat = true := small_le' (by omega)
  refine goes_up (ρ1 := [some (.scr ns), some (.int idx), some (.lst (ds.map .int)), some (.obj none C fds), some (docD d), some (.int (k : Nat)), some (.int g), some NM, some (.lst [itemD (.text (g % 9)), itemD (.mark s1), itemD (.ref s2), itemD .brk]), some (docD row), x10, x11, x12, x13, x14, x15]) (by
    simp (disch := omega) [mod_int, hrg, hsr, wipeR, hrow, tup_doc]) ?_
  -- the place
  have hpl : ∃ p : D, Goes (oSeq (oUp (gSet 11 (b2 gMod (b2 gIdx (fVarW 2) (fz (b2 gAdd (fC (.int 65)) (fVarW 5)))) (fz (b2 gAdd (u1 gLen (fVarW 4)) (fC (.int 1))))))) (oSeq (oUp (gIf (tb (b2 gEq (b2 gMod (b2 gIdx (fVarW 2) (fz (b2 gAdd (fC (.int 90)) (fVarW 5)))) (fC (.int 9))) (fC (.int 0)))) (gSeq (gSet 11 (b2 gIdx (fz (fLst (fsCons (b2 gSub (fC (.int 0)) (fC (.int 1))) (fsCons (fz (b2 gAdd (u1 gLen (fVarW 4)) (fC (.int 1)))) (fsCons (fC .non) (fsCons (fC (.bl true)) (fsCons (fC (.str "0")) fsNil))))))) (b2 gMod (fVarW 6) (fC (.int 5))))) gNil) gNil)) oNil))
      [some (.scr ns), some (.int idx), some (.lst (ds.map .int)), some (.obj none C fds), some (docD d), some (.int (k : Nat)), some (.int g), some NM, some (.lst [itemD (.text (g % 9)), itemD (.mark s1), itemD (.ref s2), itemD .brk]), some (docD row), x10, x11, x12, x13, x14, x15]
      (fun ρ => ρ = [some (.scr ns), some (.int idx), some (.lst (ds.map .int)), some (.obj none C fds), some (docD d), some (.int (k : Nat)), some (.int g), some NM, some (.lst [itemD (.text (g % 9)), itemD (.mark s1), itemD (.ref s2), itemD .brk]), some (docD row), x10, some p, x12, x13, x14, x15]) ∧ okV 3 p = true := by
    have hm : (0 : Int) < (d.length : Int) + 1 := by omega
    by_cases h9 : g9 % 9 = 0
    · have hx : ∃ p : D, gIdx (.lst [.int (0 - 1), .int ((d.length : Int) + 1), .non, .bl true, .str "0"]) (.int (g % 5)) = some p ∧ okV 3 p = true := by
        rcases (by omega : g % 5 = 0 ∨ g % 5 = 1 ∨ g % 5 = 2 ∨ g % 5 = 3 ∨ g % 5 = 4) with e | e | e | e | e <;> rw [e]
        · exact ⟨_, rfl, vI⟩
        · exact ⟨_, rfl, vI⟩
        · exact ⟨_, rfl, vN⟩
        · exact ⟨_, rfl, vB⟩
        · exact ⟨_, rfl, vS.mpr ⟨by decide +kernel, by decide +kernel⟩⟩
      obtain ⟨p, hp, hv⟩ := hx
      simp only [Int.zero_sub] at hp
      refine ⟨p, goes_up (ρ1 := _) (by simp (disch := omega) [d65, mod_int, hm] <;> rfl) (goes_up (ρ1 := _) (by simp (disch := omega) [d90, mod_int, h9, hp] <;> rfl) (goes_nil rfl)), hv⟩
    · refine ⟨.int (g6 % ((d.length : Int) + 1)), goes_up (ρ1 := _) (by simp (disch := omega) [d65, mod_int, hm] <;> rfl) (goes_up (ρ1 := _) (by simp (disch := omega) [d90, mod_int, h9] <;> rfl) (goes_nil rfl)), vI⟩
  obtain ⟨p, hgo, hpv⟩ := hpl
  refine goes_two hgo fun ρ1 e => ?_
  subst e
  have hp1 := no_V hpv
  have hgood := M_lisint (lo := 0) (hi := (d.length : Nat)) hpv
  refine goes_up (ρ1 := [some (.scr ns), some (.int idx), some (.lst (ds.map .int)), some (.obj none C fds), some (docD d), some (.int (k : Nat)), some (.int g), some NM, some (.lst [itemD (.text (g % 9)), itemD (.mark s1), itemD (.ref s2), itemD .brk]), some (docD row), x10, some p, some (.bl (isI 0 (d.length : Nat) p)), x13, x14, x15]) (by
    simp [hp1.1, hgood]) ?_
  generalize D.lst [itemD (.text (g % 9)), itemD (.mark s1), itemD (.ref s2), itemD .brk] = SM
  have lvd := lvalid hg (by omega)
  have ncD : noOpn (docD d) = some (docD d) := rfl
  refine goes_seq' (P' := Af q ns idx ds d (some (.int (k : Nat))) (some (.int g)) (some NM) (some SM) (some (docD row)) x10 (some p) x15) (goes_if (k := decide (g9 / 9 % 3 < 2)) (by simp (disch := omega) [d90, mod_int, div_int]) (fun _ => ?_) (fun _ => ?_)) ?_
  · -- inserted
    cases hb : isI 0 (d.length : Nat) p with
    | false =>
      refine goes_up (ρ1 := [some (.scr ns), some (.int idx), some (.lst (ds.map .int)), some (.obj none C fds), some (docD d), some (.int (k : Nat)), some (.int g), some NM, some SM, some (docD row), x10, some p, some (.bl false), some (docD d), x14, x15]) (by simp) ?_
      refine goes_up (ρ1 := [some (.scr ns), some (.int idx), some (.lst (ds.map .int)), some (.obj none C fds), some (docD d), some (.int (k : Nat)), some (.int g), some NM, some SM, some (docD row), x10, some p, some (.bl false), some (docD d), some (.str "spot value"), x15]) (by simp) ?_
      refine goes_no (zb_ne (told_ex (zm2 (args := [p, docD row]) hq rfl (by simp [hp1.1]) rfl (put_of hp1.1 (by simpa using r1) (by simpa using r3) (.inr ⟨_, _, rfl⟩) (ob.insP hpv hb))) (txt_P hq)) (by simp) (okT_ okN s_spot)) (goes_nil ?_)
      exact ⟨C, fds, _, d, "spot value", rfl, s_spot, by simpa [ne_spot] using ob, by simpa [ne_spot] using hd, by simpa [ne_spot] using hg⟩
    | true =>
      obtain ⟨i, rfl, hi0, hi1⟩ := isI_of hb
      obtain ⟨n, rfl⟩ := nat_of hi0
      have hn : n ≤ d.length := by omega
      have s1 := sl_lo (d := d) (n := n)
      have s2 := sl_hi hn
      have a1 : gAdd (docD (d.take n)) (docD row) = some (docD (d.take n ++ row)) := gAdd_doc (by simp; omega)
      have a2 : gAdd (docD (d.take n ++ row)) (docD (d.drop n)) = some (docD (d.take n ++ row ++ d.drop n)) := gAdd_doc (by simp; omega)
      have hge : ∀ it ∈ d.take n ++ row ++ d.drop n, Gd it := fun it h => by
        rcases List.mem_append.mp h with h | h
        · rcases List.mem_append.mp h with h | h
          · exact hg _ (List.mem_of_mem_take h)
          · exact hgr _ h
        · exact hg _ (List.mem_of_mem_drop h)
      have lve := lvalid hge (by simp; omega)
      have ive := isdoc_ok hge
      have hds : ((d.map itemD).take n ++ row.map itemD ++ (d.map itemD).drop n) = (d.take n ++ row ++ d.drop n).map itemD := by simp
      cases he : docOk (d.take n ++ row ++ d.drop n) with
      | false =>
        rw [he] at lve ive
        have run := ob.insI (k := n) (items := row.map itemD) (by omega) hn (by simp; omega) (by rw [hds]; exact ive)
        generalize d.take n ++ row ++ d.drop n = e at *
        refine goes_up (ρ1 := [some (.scr ns), some (.int idx), some (.lst (ds.map .int)), some (.obj none C fds), some (docD d), some (.int (k : Nat)), some (.int g), some NM, some SM, some (docD row), x10, some (.int (n : Nat)), some (.bl true), some (docD e), x14, x15]) (by simp [s1, s2, a1, a2]) ?_
        refine goes_up (ρ1 := [some (.scr ns), some (.int idx), some (.lst (ds.map .int)), some (.obj none C fds), some (docD d), some (.int (k : Nat)), some (.int g), some NM, some SM, some (docD row), x10, some (.int (n : Nat)), some (.bl true), some (docD e), some (.str "contents value"), x15]) (by simp [lve]) ?_
        refine goes_no (zb_ne (told_ex (zm2 (args := [.int (n : Nat), docD row]) hq rfl (by simp) rfl (put_of rfl (by simpa using r1) (by simpa using r3) (.inr ⟨_, _, rfl⟩) run)) (txt_I hq)) (by simp) (okT_ okN s_cont)) (goes_nil ?_)
        exact ⟨C, fds, _, e, "contents value", rfl, s_cont, by simpa [ne_cont] using ob, by simpa [ne_cont] using hd, by simpa [ne_cont] using hg⟩
      | true =>
        rw [he] at lve ive
        obtain ⟨fds', run, ob'⟩ := ob.insO (k := n) (row := row) (by omega) hn (by omega) hnd (by omega) ive
        generalize d.take n ++ row ++ d.drop n = e at *
        refine goes_up (ρ1 := [some (.scr ns), some (.int idx), some (.lst (ds.map .int)), some (.obj none C fds), some (docD d), some (.int (k : Nat)), some (.int g), some NM, some SM, some (docD row), x10, some (.int (n : Nat)), some (.bl true), some (docD e), x14, x15]) (by simp [s1, s2, a1, a2]) ?_
        refine goes_up (ρ1 := [some (.scr ns), some (.int idx), some (.lst (ds.map .int)), some (.obj none C fds), some (docD d), some (.int (k : Nat)), some (.int g), some NM, some SM, some (docD row), x10, some (.int (n : Nat)), some (.bl true), some (docD e), some (.str ""), x15]) (by simp [lve]) ?_
        refine goes_no (zb_ne (told_ok (zm2 (args := [.int (n : Nat), docD row]) hq rfl (by simp) rfl (put_of rfl (by simpa using r1) (by simpa using r3) (.inl ⟨_, rfl⟩) run))) (by simp) (okT_ okN s_emp)) (goes_nil ?_)
        exact ⟨C, fds', _, e, "", rfl, s_emp, by simpa using ob', by simpa using he, by simpa using hge⟩
  · -- removed
    cases hb : isI 0 ((d.length : Nat) - 1) p with
    | false =>
      have hx : (vAnd (fVar 12) (b2 gLt (fVarW 11) (u1 gLen (fVarW 4)))) [some (.scr ns), some (.int idx), some (.lst (ds.map .int)), some (.obj none C fds), some (docD d), some (.int (k : Nat)), some (.int g), some NM, some SM, some (docD row), x10, some p, some (.bl (isI 0 (d.length : Nat) p)), x13, x14, x15] = some (.bl false) := by
        cases hc : isI 0 (d.length : Nat) p with
        | false => simp
        | true =>
          obtain ⟨i, rfl, hi0, hi1⟩ := isI_of hc
          have : ¬ i ≤ (d.length : Int) - 1 := fun z => by
            have : isI 0 ((d.length : Nat) - 1) (.int i) = true := by simp [isI, hi0, z]
            rw [this] at hb; cases hb
          have h2 : ¬ i < (d.length : Int) := by omega
          simp [h2]
      refine goes_up (ρ1 := [some (.scr ns), some (.int idx), some (.lst (ds.map .int)), some (.obj none C fds), some (docD d), some (.int (k : Nat)), some (.int g), some NM, some SM, some (docD row), x10, some p, some (.bl false), x13, x14, x15]) (by rw [e_set, hx]; rfl) ?_
      refine goes_up (ρ1 := [some (.scr ns), some (.int idx), some (.lst (ds.map .int)), some (.obj none C fds), some (docD d), some (.int (k : Nat)), some (.int g), some NM, some SM, some (docD row), x10, some p, some (.bl false), some (docD d), x14, x15]) (by simp) ?_
      refine goes_up (ρ1 := [some (.scr ns), some (.int idx), some (.lst (ds.map .int)), some (.obj none C fds), some (docD d), some (.int (k : Nat)), some (.int g), some NM, some SM, some (docD row), x10, some p, some (.bl false), some (docD d), some (.str "spot value"), x15]) (by simp) ?_
      have e1 : gEq (.str "spot value") (.str "") = some (.bl false) := by rw [eq_strs s_spot s_emp]; simp [ne_spot]
      refine goes_no (zb_ne (told_ex (zm2 (args := [p]) hq rfl (by simp [hp1.1]) rfl (ob.remP hpv hb)) (txt_P hq)) (by simp [e1]) (okT_ okN s_spot)) (goes_nil ?_)
      exact ⟨C, fds, _, d, "spot value", rfl, s_spot, by simpa [ne_spot] using ob, by simpa [ne_spot] using hd, by simpa [ne_spot] using hg⟩
    | true =>
      obtain ⟨i, rfl, hi0, hi1⟩ := isI_of hb
      obtain ⟨n, rfl⟩ := nat_of hi0
      have hn : n < d.length := by omega
      have hc : isI 0 (d.length : Nat) (.int (n : Nat)) = true := by
        have : (n : Int) ≤ (d.length : Int) := by omega
        simp [isI, this]
      have hc2 : (n : Int) < (d.length : Int) := by omega
      have s1 := sl_lo (d := d) (n := n)
      have s2 := sl_hi1 hn
      obtain ⟨it, hit⟩ : ∃ it, d[n]? = some it := ⟨_, List.getElem?_eq_getElem hn⟩
      have hix := ix_doc hit
      have a1 : gAdd (docD (d.take n)) (docD (d.drop (n + 1))) = some (docD (d.take n ++ d.drop (n + 1))) := gAdd_doc (by simp; omega)
      have hge : ∀ it ∈ d.take n ++ d.drop (n + 1), Gd it := fun it h => by
        rcases List.mem_append.mp h with h | h
        · exact hg _ (List.mem_of_mem_take h)
        · exact hg _ (List.mem_of_mem_drop h)
      have lve := lvalid hge (by simp; omega)
      have ive := isdoc_ok hge
      have e1 : gEq (.str "contents value") (.str "") = some (.bl false) := by rw [eq_strs s_cont s_emp]; simp [ne_cont]
      have e2 : gEq (.str "") (.str "") = some (.bl true) := by rw [eq_strs s_emp s_emp]; simp
      cases he : docOk (d.take n ++ d.drop (n + 1)) with
      | false =>
        rw [he] at lve ive
        have run := ob.remI (by omega) hn ive
        generalize d.take n ++ d.drop (n + 1) = e at *
        refine goes_up (ρ1 := [some (.scr ns), some (.int idx), some (.lst (ds.map .int)), some (.obj none C fds), some (docD d), some (.int (k : Nat)), some (.int g), some NM, some SM, some (docD row), x10, some (.int (n : Nat)), some (.bl true), x13, x14, x15]) (by simp [hc, hc2]) ?_
        refine goes_up (ρ1 := [some (.scr ns), some (.int idx), some (.lst (ds.map .int)), some (.obj none C fds), some (docD d), some (.int (k : Nat)), some (.int g), some NM, some SM, some (docD row), x10, some (.int (n : Nat)), some (.bl true), some (docD e), x14, x15]) (by simp [s1, s2, a1]) ?_
        refine goes_up (ρ1 := [some (.scr ns), some (.int idx), some (.lst (ds.map .int)), some (.obj none C fds), some (docD d), some (.int (k : Nat)), some (.int g), some NM, some SM, some (docD row), x10, some (.int (n : Nat)), some (.bl true), some (docD e), some (.str "contents value"), x15]) (by simp [lve]) ?_
        refine goes_no (zb_ne (told_ex (zm2 (args := [.int (n : Nat)]) hq rfl (by simp) rfl run) (txt_I hq)) (by simp [e1]) (okT_ okN s_cont)) (goes_nil ?_)
        exact ⟨C, fds, _, e, "contents value", rfl, s_cont, by simpa [ne_cont] using ob, by simpa [ne_cont] using hd, by simpa [ne_cont] using hg⟩
      | true =>
        rw [he] at lve ive
        obtain ⟨fds', run, ob'⟩ := ob.remO (by omega) hit hnd ive
        generalize d.take n ++ d.drop (n + 1) = e at *
        refine goes_up (ρ1 := [some (.scr ns), some (.int idx), some (.lst (ds.map .int)), some (.obj none C fds), some (docD d), some (.int (k : Nat)), some (.int g), some NM, some SM, some (docD row), x10, some (.int (n : Nat)), some (.bl true), x13, x14, x15]) (by simp [hc, hc2]) ?_
        refine goes_up (ρ1 := [some (.scr ns), some (.int idx), some (.lst (ds.map .int)), some (.obj none C fds), some (docD d), some (.int (k : Nat)), some (.int g), some NM, some SM, some (docD row), x10, some (.int (n : Nat)), some (.bl true), some (docD e), x14, x15]) (by simp [s1, s2, a1]) ?_
        refine goes_up (ρ1 := [some (.scr ns), some (.int idx), some (.lst (ds.map .int)), some (.obj none C fds), some (docD d), some (.int (k : Nat)), some (.int g), some NM, some SM, some (docD row), x10, some (.int (n : Nat)), some (.bl true), some (docD e), some (.str ""), x15]) (by simp [lve]) ?_
        refine goes_no (zb_ne (told_ok (zm2 (args := [.int (n : Nat)]) hq rfl (by simp) rfl run)) (by simp [e2, hix]) (okT_ (ok_item (n := 10) (hg it (List.mem_of_getElem? hit)).1) s_emp)) (goes_nil ?_)
        exact ⟨C, fds', _, e, "", rfl, s_emp, by simpa using ob', by simpa using he, by simpa using hge⟩
  · rintro ρ1 ⟨C', fds', x12', e, t, rfl, ht, ob', hd', hg'⟩
    have es := eq_strs ht s_emp
    generalize hd2 : (if t = "" then e else d) = d2 at ob' hd' hg'
    refine goes_up (ρ1 := [some (.scr ns), some (.int idx), some (.lst (ds.map .int)), some (.obj none C' fds'), some (docD d2), some (.int (k : Nat)), some (.int g), some NM, some SM, some (docD row), x10, some p, x12', some (docD e), some (.str t), x15]) (by
      by_cases h : t = ""
      · have es2 : gEq (.str t) (.str "") = some (.bl true) := by rw [es, decide_eq_true h]
        rw [if_pos h] at hd2; subst hd2; simp [es2]
      · have es2 : gEq (.str t) (.str "") = some (.bl false) := by rw [es, decide_eq_false h]
        rw [if_neg h] at hd2; subst hd2; simp [es2]) ?_
    have hl2 := docOk_len hd'
    refine goes_up (chk2 (rd2 hq rfl ob'.content) rfl (ok_gdoc hg') (len2 hq rfl (by omega) ob'.len) (by simp) okI) (goes_nil ?_)
    exact ⟨d2, C', fds', _, _, _, _, _, _, _, _, _, _, _, rfl, ob', hd', hg'⟩

/-! ### one round -/
theorem odd_get {t : Int} (h0 : 0 ≤ t) (h7 : t < 7) : ∃ x : D, gIdx (.lst [.non, .int 5, .str "break", .tup [.str "text", .int (-1)], .tup [.str "mark", .str "A"], .lst [.str "break"], .tup []]) (.int t) = some x ∧ okV 2 x = true ∧ isIt x = false := by
  rcases (by omega : t = 0 ∨ t = 1 ∨ t = 2 ∨ t = 3 ∨ t = 4 ∨ t = 5 ∨ t = 6) with rfl | rfl | rfl | rfl | rfl | rfl | rfl
  · exact ⟨_, rfl, by decide +kernel, by decide +kernel⟩
  · exact ⟨_, rfl, by decide +kernel, by decide +kernel⟩
  · exact ⟨_, rfl, by decide +kernel, by decide +kernel⟩
  · exact ⟨_, rfl, by decide +kernel, by decide +kernel⟩
  · exact ⟨_, rfl, by decide +kernel, by decide +kernel⟩
  · exact ⟨_, rfl, by decide +kernel, by decide +kernel⟩
  · exact ⟨_, rfl, by decide +kernel, by decide +kernel⟩
theorem round (hq : AdOk q) {i : Nat} (hi : i < 8) {ρ : Rho} (h : ∃ x1 x2 x3 x4 x5 x6 x7 x8 x9 x10 x11 x12 x13 x14 x15 : Option D, ρ = [some (.scr ns), x1, x2, x3, x4, x5, x6, x7, x8, x9, x10, x11, x12, x13, x14, x15]) :
    ∃ ρ1, (tName 1) (.int (0 + (i : Nat))) ρ = some ρ1 ∧ Goes (L_law_1 q) ρ1 fun ρ => ∃ x1 x2 x3 x4 x5 x6 x7 x8 x9 x10 x11 x12 x13 x14 x15 : Option D, ρ = [some (.scr ns), x1, x2, x3, x4, x5, x6, x7, x8, x9, x10, x11, x12, x13, x14, x15] := by
  obtain ⟨x1, x2, x3, x4, x5, x6, x7, x8, x9, x10, x11, x12, x13, x14, x15, rfl⟩ := h
  refine ⟨[some (.scr ns), some (.int (i : Nat)), x2, x3, x4, x5, x6, x7, x8, x9, x10, x11, x12, x13, x14, x15], by simp, ?_⟩
  obtain ⟨ds, hds, hl, hb⟩ := M_digits (ns := ns) (i := (i : Nat)) (count := 120) (base := 27720) (by omega) (by omega) (by omega)
  have hl : ds.length = 120 := by omega
  unfold L_law_1
  refine goes_up (ρ1 := [some (.scr ns), some (.int (i : Nat)), some (.lst (ds.map .int)), x3, x4, x5, x6, x7, x8, x9, x10, x11, x12, x13, x14, x15]) (by simp [hds]) ?_
  have g1 : Gd .brk := gd_brk
  have hgb : ∀ it ∈ [Item.brk], Gd it := fun it h => by rw [List.mem_singleton.mp h]; exact gd_brk
  have hdb : docOk [.brk] = true := by decide +kernel
  have ib := isdoc_ok hgb
  rw [hdb] at ib
  have mi : M_is_integer [.int 5, .int 1, .int 10000] = some (.bl true) := by rw [M_isint (n := 0) (by rfl)]; rfl
  have iR := init_R (q := q) (d := [.brk]) (z := .int 5) rfl (by decide) ib mi
  have iD := init0_D (q := q) (args := [Item.brk].map itemD) (z := .int 5) rfl ib mi
  have sm : small 1 = true := small_le' (by omega)
  have hbk : D.tup [.str "break"] = itemD .brk := rfl
  have hmk : ∃ (C : Addr) (fds : List D), Ob q C fds [.brk] (.int 5) ∧ oSetM 3 (mIf (tb (b2 gEq (b2 gMod (fVarW 1) (fC (.int 2))) (fC (.int 0)))) (mMakeK q.R (F_Draft___init___R q) (fsCons (fTup (fsCons (fC (.str "break")) fsNil)) fsNil) (fC (.int 5))) (mMakeK q.D (F_Document___init___D q) (fsCons (fTup (fsCons (fC (.str "break")) fsNil)) fsNil) (fC (.int 5))))
      [some (.scr ns), some (.int (i : Nat)), some (.lst (ds.map .int)), x3, x4, x5, x6, x7, x8, x9, x10, x11, x12, x13, x14, x15] = some (.nx [some (.scr ns), some (.int (i : Nat)), some (.lst (ds.map .int)), some (.obj none C fds), x4, x5, x6, x7, x8, x9, x10, x11, x12, x13, x14, x15]) := by
    by_cases h2 : (i : Int) % 2 = 0
    · refine ⟨q.R, [docD [.brk], .int 5, numD (List.replicate (names [Item.brk]).length 1)], .inl ⟨rfl, _, rfl, by rw [List.length_replicate]⟩, ?_⟩
      simp only [List.map_cons, List.map_nil] at iR
      simp (disch := omega) [mod_int, h2, hbk, sm, iR]
    · refine ⟨q.D, [docD [.brk], .int 5], .inr ⟨rfl, rfl⟩, ?_⟩
      simp only [List.map_cons, List.map_nil] at iD
      simp (disch := omega) [mod_int, h2, hbk, sm, iD]
      rfl
  obtain ⟨C, fds, ob, hmk⟩ := hmk
  refine goes_seq hmk ?_
  refine goes_up (ρ1 := [some (.scr ns), some (.int (i : Nat)), some (.lst (ds.map .int)), some (.obj none C fds), some (docD [.brk]), x5, x6, x7, x8, x9, x10, x11, x12, x13, x14, x15]) (by simp [docD, itemD]) ?_
  have r24 : rng1 [.int 24] = some ((List.range 24).map fun i : Nat => .int (i : Nat)) := rng1_0 (by omega)
  obtain ⟨ρ2, hlo, hS⟩ := ofGo_range (t := tName 5) (b := L_law_0 q) (fun _ ρ => St q ns (i : Nat) ds ρ) (n := 24) (ρ := [some (.scr ns), some (.int (i : Nat)), some (.lst (ds.map .int)), some (.obj none C fds), some (docD [.brk]), x5, x6, x7, x8, x9, x10, x11, x12, x13, x14, x15]) ⟨_, C, fds, _, _, _, _, _, _, _, _, _, _, _, rfl, ob, hdb, hgb⟩ (fun k ρ hk hS => by
    obtain ⟨ρ1, h1, ρ2, h2, h3⟩ := step hq (fun x hx => (hb x hx).1) hl hk hS
    exact ⟨ρ1, ρ2, by simpa using h1, h2, h3⟩)
  refine goes_seq (goes_ofor (l := (List.range 24).map fun i : Nat => .int (i : Nat)) (by simp [r24]) hlo) ?_
  obtain ⟨d, C, fds, y5, y6, y7, y8, y9, y10, y11, y12, y13, y14, y15, rfl, ob, hd, hg⟩ := hS
  have hdl := docOk_len hd
  have hnd := docOk_nd hd
  have d5 : gIdx (.lst (ds.map .int)) (.int 5) = some (.int (atZ ds 5)) := ix_ints (by omega) (by omega)
  have g5 := (hb _ (atZ_mem (ns := ds) (i := 5) (by omega) (by omega))).1
  generalize atZ ds 5 = g at *
  obtain ⟨x, hx, xv, xi⟩ := odd_get (t := g % 7) (by omega) (by omega)
  refine goes_up (ρ1 := [some (.scr ns), some (.int (i : Nat)), some (.lst (ds.map .int)), some (.obj none C fds), some (docD d), y5, y6, y7, y8, y9, y10, y11, y12, y13, y14, some x]) (by simp (disch := omega) [d5, mod_int, hx]) ?_
  have bad : M_is_document [.tup ((d.map itemD).take 0 ++ [itemD .brk, x] ++ (d.map itemD).drop 0)] = some (.bl false) := isdoc_bad (n := 2) (fun y hy => by
    simp only [List.take_zero, List.nil_append, List.drop_zero, List.cons_append] at hy
    rcases List.mem_cons.mp hy with rfl | hy
    · exact gd_brk.2.2
    · rcases List.mem_cons.mp hy with rfl | hy
      · exact xv
      · obtain ⟨it, hit, rfl⟩ := List.mem_map.mp hy
        exact (hg it hit).2.2) ⟨x, by simp, xi⟩
  have run := ob.insI (k := 0) (items := [itemD .brk, x]) (by omega) (Nat.zero_le _) (by simp) bad
  have ive := isdoc_ok hg
  rw [hd] at ive
  have e0 : d.take 0 ++ [] ++ d.drop 0 = d := by simp
  obtain ⟨fds', run2, ob2⟩ := ob.insO (k := 0) (row := []) (by omega) (Nat.zero_le _) (by simp) hnd (by simp; omega) (by rw [e0]; exact ive)
  rw [e0] at ob2
  have hx1 := (no_V xv).1
  refine goes_no (zor_no (zb_ne (told_ex (zs2 (d := .int ((0 : Nat) : Int)) (args := [itemD .brk, x]) hq rfl (by simp [hx1, itemD]) (by simp) run) (txt_I hq)) (by simp) (okT_ okN s_cont)) (chk1 (rd2 hq rfl ob.content) rfl (ok_gdoc hg))) ?_
  refine goes_no (zor_no (zb_isnot (zs2 (d := .int ((0 : Nat) : Int)) (args := ([] : Doc).map itemD) hq rfl (by simp) (by simp) run2)) (chk1 (rd2 hq rfl ob2.content) rfl (ok_gdoc hg))) (goes_nil ?_)
  exact ⟨_, _, _, _, _, _, _, _, _, _, _, _, _, _, _, rfl⟩
theorem law_true (hq : AdOk q) : ∀ ns : List Int, ns.length ≤ 63 → B_law q (some (.scr ns) :: List.replicate 15 none) = some (.rt (.bl true)) := fun ns _ => by
  have r8 : rng1 [.int 8] = some ((List.range 8).map fun i : Nat => .int (i : Nat)) := rng1_0 (by omega)
  obtain ⟨ρ2, hlo, _⟩ := ofGo_range (t := tName 1) (b := L_law_1 q) (fun _ ρ => ∃ x1 x2 x3 x4 x5 x6 x7 x8 x9 x10 x11 x12 x13 x14 x15 : Option D, ρ = [some (.scr ns), x1, x2, x3, x4, x5, x6, x7, x8, x9, x10, x11, x12, x13, x14, x15]) (n := 8) (ρ := some (.scr ns) :: List.replicate 15 none) ⟨_, _, _, _, _, _, _, _, _, _, _, _, _, _, _, rfl⟩ (fun k ρ hk hS => by
    obtain ⟨ρ1, h1, ρ2, h2, h3⟩ := round hq hk hS
    exact ⟨ρ1, ρ2, by simpa using h1, h2, h3⟩)
  have h1 := goes_ofor (g1 := L_law_1 q) (src := fRng rng1 (fsCons (fC (.int 8)) fsNil)) (l := (List.range 8).map fun i : Nat => .int (i : Nat)) (ρ := some (.scr ns) :: List.replicate 15 none) (by simp [r8]) hlo
  unfold B_law
  rw [o_seq, h1]
  rfl
end
end PLaw
/-! ### part Fo_k15 -/
open PySem PySem.W PyProof.Rows
set_option maxHeartbeats 0 in
theorem PySem.Challenge.cw_rerunpages_k15_items_inserted_and_remove_holds : PySem.Challenge.rw_rerunpages_k15_items_inserted_and_remove.Holds := by
  w_on; o_law; k_head; (case hw => w_witness2)
  k_fill
  refine LamX.walk_ofOwn (l := PySem.Challenge.rw_rerunpages_k15_items_inserted_and_remove) (n := 63) (k := 9) (x := "script") (CX := fun w => L2N.CX PySem.Challenge.rw_rerunpages_k15_items_inserted_and_remove.prog w) rfl (by decide) rfl ⟨rfl, by decide, by decide⟩ rfl (fun w h Y => by first | exact PySem.W.km_in_of Y | exact PySem.W.kIn_of Y) ?F ?C
  case F =>
    intro w mg fa h Y KX G hmg own
    refine' PLaw.all_mk (P := PySem.Challenge.rw_rerunpages_k15_items_inserted_and_remove.prog) rfl KX G hmg own ?ga_Document ?ga_Draft ?ga_InvalidItems ?ga_InvalidSize ?ga_InvalidText ?ga_InvalidPlace ?ga_InvalidLimit ?ga_UnknownMark ?ga_PageError ?ga_is_integer ?l_is_integer ?c_is_integer ?k_is_integer ?ga_is_name ?l_is_name ?c_is_name ?k_is_name ?ga_mark_names ?l_mark_names ?c_mark_names ?k_mark_names ?ga__law_cell ?l__law_cell ?c__law_cell ?k__law_cell ?ga__law_is_integer ?l__law_is_integer ?c__law_is_integer ?k__law_is_integer ?ga__law_valid ?l__law_valid ?c__law_valid ?k__law_valid ?ga_is_item ?l_is_item ?c_is_item ?k_is_item ?ga__law_digits ?l__law_digits ?c__law_digits ?k__law_digits ?ga_is_document ?l_is_document ?c_is_document ?k_is_document ?z_ValueError ?z_all ?z_bool ?z_int ?z_isinstance ?z_len ?z_range ?z_set ?z_sorted ?z_str ?z_tuple ?z_zip ?y_LETTERS ?o1_D ?o2_D ?o3_D ?o4_D ?n0_D ?n1_D ?n2_D ?o1_R ?o2_R ?o3_R ?o4_R ?n0_R ?n1_R ?n2_R ?mroR ?isR ?z_super ?top_ ?e1_eI ?e2_eI ?e3_eI ?e4_eI ?e1_eS ?e2_eS ?e3_eS ?e4_eS ?e1_eT ?e2_eT ?e3_eT ?e4_eT ?e1_eP ?e2_eP ?e3_eP ?e4_eP ?e1_eL ?e2_eL ?e3_eL ?e4_eL ?e1_eU ?e2_eU ?e3_eU ?e4_eU ?s1_Document___init___R ?s2_Document___init___R ?s3_Document___init___R ?s4_ ?p1_Document_names_R ?p2_Document_names_R ?p3_Document_names_R ?p4_Document_names_R ?mk1_R ?mk2_R ?mk3_R ?mk4_R ?mk1_D ?mk2_D ?mk3_D ?mk4_D ?s1_Document_change_R ?s2_Document_change_R ?s3_Document_change_R ?m1_Draft_change_R ?m2_Draft_change_R ?m3_Draft_change_R ?m1_Document_insert_R ?m2_Document_insert_R ?m3_Document_insert_R ?ga__law_put ?m1_Document_change_D ?m2_Document_change_D ?m3_Document_change_D ?m1_Document_insert_D ?m2_Document_insert_D ?m3_Document_insert_D ?m1_Document_remove_R ?m2_Document_remove_R ?m3_Document_remove_R ?m1_Document_remove_D ?m2_Document_remove_D ?m3_Document_remove_D ?m1_Document___len___R ?m2_Document___len___R ?m3_Document___len___R ?m1_Document___len___D ?m2_Document___len___D ?m3_Document___len___D ?p1_Document_content_R ?p2_Document_content_R ?p3_Document_content_R ?p4_Document_content_R ?p1_Document_content_D ?p2_Document_content_D ?p3_Document_content_D ?p4_Document_content_D ?ga__law_error ?ga__law_told ?x0_eI ?x1_eI ?x3_eI ?x4_eI ?x7_eI ?x5_ ?x6_ ?pe1 ?pe2 ?pe3 ?pe_eI ?kv_eI ?ku_eI_eI ?ku_eI_eS ?ku_eI_eT ?ku_eI_eP ?ku_eI_eL ?ku_eI_eU ?x0_eS ?x1_eS ?x3_eS ?x4_eS ?x7_eS ?pe_eS ?kv_eS ?ku_eS_eI ?ku_eS_eS ?ku_eS_eT ?ku_eS_eP ?ku_eS_eL ?ku_eS_eU ?x0_eT ?x1_eT ?x3_eT ?x4_eT ?x7_eT ?pe_eT ?kv_eT ?ku_eT_eI ?ku_eT_eS ?ku_eT_eT ?ku_eT_eP ?ku_eT_eL ?ku_eT_eU ?x0_eP ?x1_eP ?x3_eP ?x4_eP ?x7_eP ?pe_eP ?kv_eP ?ku_eP_eI ?ku_eP_eS ?ku_eP_eT ?ku_eP_eP ?ku_eP_eL ?ku_eP_eU ?x0_eL ?x1_eL ?x3_eL ?x4_eL ?x7_eL ?pe_eL ?kv_eL ?ku_eL_eI ?ku_eL_eS ?ku_eL_eT ?ku_eL_eP ?ku_eL_eL ?ku_eL_eU ?x0_eU ?x1_eU ?x3_eU ?x4_eU ?x7_eU ?pe_eU ?kv_eU ?ku_eU_eI ?ku_eU_eS ?ku_eU_eT ?ku_eU_eP ?ku_eU_eL ?ku_eU_eU ?l_Document___init__ ?c_Document___init__ ?d0_Document___init__ ?l_Document_names ?c_Document_names ?k_Document_names ?l_Draft___init__ ?c_Draft___init__ ?h_Draft___init__ ?i_Draft___init__ ?v_Draft___init__ ?w_Draft___init__ ?d0_Draft___init__ ?l_Document_change ?c_Document_change ?k_Document_change ?l_Draft_change ?c_Draft_change ?h_Draft_change ?i_Draft_change ?v_Draft_change ?w_Draft_change ?l_Document_insert ?c_Document_insert ?k_Document_insert ?l__law_put ?c__law_put ?k__law_put ?l_Document_remove ?c_Document_remove ?k_Document_remove ?l_Document___len__ ?c_Document___len__ ?k_Document___len__ ?l_Document_content ?c_Document_content ?k_Document_content ?l__law_error ?c__law_error ?k__law_error ?l__law_told ?c__law_told ?k__law_told ?ga_law ?l_law ?c_law ?lc_law ?v_law ?n_law ?h_law ?hlaw
    case ga_Document => k_is
    case ga_Draft => k_is
    case ga_InvalidItems => k_is
    case ga_InvalidSize => k_is
    case ga_InvalidText => k_is
    case ga_InvalidPlace => k_is
    case ga_InvalidLimit => k_is
    case ga_UnknownMark => k_is
    case ga_PageError => k_is
    case ga_is_integer => k_is
    case l_is_integer => k_is
    case c_is_integer => k_is
    case k_is_integer => k_is
    case ga_is_name => k_is
    case l_is_name => k_is
    case c_is_name => k_is
    case k_is_name => k_is
    case ga_mark_names => k_is
    case l_mark_names => k_is
    case c_mark_names => k_is
    case k_mark_names => k_is
    case ga__law_cell => k_is
    case l__law_cell => k_is
    case c__law_cell => k_is
    case k__law_cell => k_is
    case ga__law_is_integer => k_is
    case l__law_is_integer => k_is
    case c__law_is_integer => k_is
    case k__law_is_integer => k_is
    case ga__law_valid => k_is
    case l__law_valid => k_is
    case c__law_valid => k_is
    case k__law_valid => k_is
    case ga_is_item => k_is
    case l_is_item => k_is
    case c_is_item => k_is
    case k_is_item => k_is
    case ga__law_digits => k_is
    case l__law_digits => k_is
    case c__law_digits => k_is
    case k__law_digits => k_is
    case ga_is_document => k_is
    case l_is_document => k_is
    case c_is_document => k_is
    case k_is_document => k_is
    case z_ValueError => k_is
    case z_all => k_is
    case z_bool => k_is
    case z_int => k_is
    case z_isinstance => k_is
    case z_len => k_is
    case z_range => k_is
    case z_set => k_is
    case z_sorted => k_is
    case z_str => k_is
    case z_tuple => k_is
    case z_zip => k_is
    case y_LETTERS => k_is
    case o1_D => k_is
    case o2_D => k_is
    case o3_D => k_is
    case o4_D => k_is
    case n0_D => k_is
    case n1_D => k_is
    case n2_D => k_is
    case o1_R => k_is
    case o2_R => k_is
    case o3_R => k_is
    case o4_R => k_is
    case n0_R => k_is
    case n1_R => k_is
    case n2_R => k_is
    case mroR => k_is
    case isR => k_is
    case z_super => k_is
    case top_ => rfl
    case e1_eI => k_exc
    case e2_eI => k_is
    case e3_eI => k_is
    case e4_eI => k_is
    case e1_eS => k_exc
    case e2_eS => k_is
    case e3_eS => k_is
    case e4_eS => k_is
    case e1_eT => k_exc
    case e2_eT => k_is
    case e3_eT => k_is
    case e4_eT => k_is
    case e1_eP => k_exc
    case e2_eP => k_is
    case e3_eP => k_is
    case e4_eP => k_is
    case e1_eL => k_exc
    case e2_eL => k_is
    case e3_eL => k_is
    case e4_eL => k_is
    case e1_eU => k_exc
    case e2_eU => k_is
    case e3_eU => k_is
    case e4_eU => k_is
    case s1_Document___init___R => ks_is
    case s2_Document___init___R => k_is
    case s3_Document___init___R => k_is
    case s4_ => k_is
    case p1_Document_names_R => k_is
    case p2_Document_names_R => k_is
    case p3_Document_names_R => k_is
    case p4_Document_names_R => k_is
    case mk1_R => k_is
    case mk2_R => k_is
    case mk3_R => k_is
    case mk4_R => k_is
    case mk1_D => k_is
    case mk2_D => k_is
    case mk3_D => k_is
    case mk4_D => k_is
    case s1_Document_change_R => ks_is
    case s2_Document_change_R => k_is
    case s3_Document_change_R => k_is
    case m1_Draft_change_R => k_is
    case m2_Draft_change_R => k_is
    case m3_Draft_change_R => k_is
    case m1_Document_insert_R => k_is
    case m2_Document_insert_R => k_is
    case m3_Document_insert_R => k_is
    case ga__law_put => k_is
    case m1_Document_change_D => k_is
    case m2_Document_change_D => k_is
    case m3_Document_change_D => k_is
    case m1_Document_insert_D => k_is
    case m2_Document_insert_D => k_is
    case m3_Document_insert_D => k_is
    case m1_Document_remove_R => k_is
    case m2_Document_remove_R => k_is
    case m3_Document_remove_R => k_is
    case m1_Document_remove_D => k_is
    case m2_Document_remove_D => k_is
    case m3_Document_remove_D => k_is
    case m1_Document___len___R => k_is
    case m2_Document___len___R => k_is
    case m3_Document___len___R => k_is
    case m1_Document___len___D => k_is
    case m2_Document___len___D => k_is
    case m3_Document___len___D => k_is
    case p1_Document_content_R => k_is
    case p2_Document_content_R => k_is
    case p3_Document_content_R => k_is
    case p4_Document_content_R => k_is
    case p1_Document_content_D => k_is
    case p2_Document_content_D => k_is
    case p3_Document_content_D => k_is
    case p4_Document_content_D => k_is
    case ga__law_error => k_is
    case ga__law_told => k_is
    case x0_eI => k_is
    case x1_eI => k_is
    case x3_eI => k_is
    case x4_eI => k_is
    case x7_eI => k_is
    case x5_ => k_is
    case x6_ => k_is
    case pe1 => k_is
    case pe2 => k_is
    case pe3 => k_is
    case pe_eI => k_is
    case kv_eI => kit_is
    case ku_eI_eI => kit_is
    case ku_eI_eS => kit_is
    case ku_eI_eT => kit_is
    case ku_eI_eP => kit_is
    case ku_eI_eL => kit_is
    case ku_eI_eU => kit_is
    case x0_eS => k_is
    case x1_eS => k_is
    case x3_eS => k_is
    case x4_eS => k_is
    case x7_eS => k_is
    case pe_eS => k_is
    case kv_eS => kit_is
    case ku_eS_eI => kit_is
    case ku_eS_eS => kit_is
    case ku_eS_eT => kit_is
    case ku_eS_eP => kit_is
    case ku_eS_eL => kit_is
    case ku_eS_eU => kit_is
    case x0_eT => k_is
    case x1_eT => k_is
    case x3_eT => k_is
    case x4_eT => k_is
    case x7_eT => k_is
    case pe_eT => k_is
    case kv_eT => kit_is
    case ku_eT_eI => kit_is
    case ku_eT_eS => kit_is
    case ku_eT_eT => kit_is
    case ku_eT_eP => kit_is
    case ku_eT_eL => kit_is
    case ku_eT_eU => kit_is
    case x0_eP => k_is
    case x1_eP => k_is
    case x3_eP => k_is
    case x4_eP => k_is
    case x7_eP => k_is
    case pe_eP => k_is
    case kv_eP => kit_is
    case ku_eP_eI => kit_is
    case ku_eP_eS => kit_is
    case ku_eP_eT => kit_is
    case ku_eP_eP => kit_is
    case ku_eP_eL => kit_is
    case ku_eP_eU => kit_is
    case x0_eL => k_is
    case x1_eL => k_is
    case x3_eL => k_is
    case x4_eL => k_is
    case x7_eL => k_is
    case pe_eL => k_is
    case kv_eL => kit_is
    case ku_eL_eI => kit_is
    case ku_eL_eS => kit_is
    case ku_eL_eT => kit_is
    case ku_eL_eP => kit_is
    case ku_eL_eL => kit_is
    case ku_eL_eU => kit_is
    case x0_eU => k_is
    case x1_eU => k_is
    case x3_eU => k_is
    case x4_eU => k_is
    case x7_eU => k_is
    case pe_eU => k_is
    case kv_eU => kit_is
    case ku_eU_eI => kit_is
    case ku_eU_eS => kit_is
    case ku_eU_eT => kit_is
    case ku_eU_eP => kit_is
    case ku_eU_eL => kit_is
    case ku_eU_eU => kit_is
    case l_Document___init__ => k_is
    case c_Document___init__ => k_is
    case d0_Document___init__ => k_is
    case l_Document_names => k_is
    case c_Document_names => k_is
    case k_Document_names => k_is
    case l_Draft___init__ => k_is
    case c_Draft___init__ => k_is
    case h_Draft___init__ => k_is
    case i_Draft___init__ => k_is
    case v_Draft___init__ => rfl
    case w_Draft___init__ => first | rfl | decide +kernel | kernel_rfl
    case d0_Draft___init__ => k_is
    case l_Document_change => k_is
    case c_Document_change => k_is
    case k_Document_change => k_is
    case l_Draft_change => k_is
    case c_Draft_change => k_is
    case h_Draft_change => k_is
    case i_Draft_change => k_is
    case v_Draft_change => rfl
    case w_Draft_change => first | rfl | decide +kernel | kernel_rfl
    case l_Document_insert => k_is
    case c_Document_insert => k_is
    case k_Document_insert => k_is
    case l__law_put => k_is
    case c__law_put => k_is
    case k__law_put => k_is
    case l_Document_remove => k_is
    case c_Document_remove => k_is
    case k_Document_remove => k_is
    case l_Document___len__ => k_is
    case c_Document___len__ => k_is
    case k_Document___len__ => k_is
    case l_Document_content => k_is
    case c_Document_content => k_is
    case k_Document_content => k_is
    case l__law_error => k_is
    case c__law_error => k_is
    case k__law_error => k_is
    case l__law_told => k_is
    case c__law_told => k_is
    case k__law_told => k_is
    case ga_law => k_is
    case l_law => k_is
    case c_law => k_is
    case lc_law => k_is
    case v_law => rfl
    case n_law => first | rfl | kernel_rfl
    case h_law => first | rfl | kernel_rfl
    case hlaw => exact PLaw.law_true (by decide)
  case C => exact fun w H s e s' h => (let ⟨_, _, _, _, _, _, _, _, _, _, _, _, he⟩ := h; he)
