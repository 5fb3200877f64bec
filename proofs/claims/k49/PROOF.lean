import PyProof.Rows.All
import Wide.All
import OpenK.AllK
import Wide.FinOn
import HandS.ForMost
import HandS.DictTup
import HandS.TupSets
import HandS.Conv
import HandS.Deep
import HandS.Strs
import HandS.IsInst
import HandS.Zip
import HandS.Flow
import HandS.TupAny
import HandS.Wide
import HandS.NamedTupSort
import HandS.SortOrd
import PyProof.DictMoreH
import KE.GoesEnum
import PySem.Challenge.RW_closersteps_k49_whole_lots_ahead_put_tog
import HandS.Style
import HandS.Head0
import HandS.Head1
import HandS.Head2
import HandS.HeadEnd
import HandS.HeadHook1
section
set_option Elab.async false
set_option linter.all false
set_option maxRecDepth 100000
/-! J: data (D) in place of heaps: what an expression is worth, what a block comes to, over stores of data. -/
namespace J
open PySem PySem.Spec PyProof.Rows L2

/-! ### data -/
inductive D where
  | non | bl (b : Bool) | int (i : Int) | str (x : Str)
  | tup (ds : List D) | lst (ds : List D) | sl (ds : List D)
  | dT (kvs : List (List Key × D)) | dK (kvs : List (Key × D))
  | wt (ds : List D) | ptup (ds : List D) | fT (od : Obj) (ws : List (List Key × V)) (kvs : List (List Key × D))
  | adr (a : Addr) | ty (n : String)

def Ex (H H' : Hp) : Prop := ∀ a o, H a = some o → H' a = some o
theorem Ex.refl (H : Hp) : Ex H H := fun _ _ h => h
theorem Ex.trans {H H1 H2 : Hp} (a : Ex H H1) (b : Ex H1 H2) : Ex H H2 := fun x o h => b x o (a x o h)
theorem Ex.new {H : Hp} {p : Addr} {o : HO} (h : H p = none) : Ex H (upd H p o) := fun a u e => by
  rw [upd_ne (ne_of_none e h)]; exact e
theorem Ex.none {H H' : Hp} (e : Ex H H') {p : Addr} (h : H' p = none) : H p = none := by
  cases q : H p with
  | none => rfl
  | some o => rw [e p o q] at h; cases h
theorem Ex.rd {H H' : Hp} {a : Addr} {u : HO} (e : Ex H H') (h : Rd H a u) : Rd H' a u := by
  rcases h with h | ⟨o, h⟩
  · exact .inl (e a _ h)
  · exact .inr ⟨o, e a _ h⟩
theorem Ex.sql {K : PySem.W.Frag} {H H' : Hp} {a : Addr} {xs : List V} (e : Ex H H') (h : SqL K H a xs) : SqL K H' a xs := by
  rcases h with h | h
  · exact .inl (e.rd h)
  · exact .inr h
theorem Ex.sqt {K : PySem.W.Frag} {H H' : Hp} {a : Addr} {xs : List V} (e : Ex H H') (h : SqT K H a xs) : SqT K H' a xs := by
  rcases h with h | h
  · exact .inl (e.rd h)
  · exact .inr h

mutual
inductive Den (K : PySem.W.Frag) (H : Hp) : V → D → Prop
  | non : Den K H .non .non
  | bl (b : Bool) : Den K H (.bl b) (.bl b)
  | int (i : Int) : Den K H (.int i) (.int i)
  | str (x : Str) : Den K H (.str x) (.str x)
  | ty (n : String) : Den K H (.ty n) (.ty n)
  | adr (a : Addr) : Den K H (.ref a) (.adr a)
  | tup {a : Addr} {vs : List V} {ds : List D} : H a = some (.tup vs) → DenL K H vs ds → Den K H (.ref a) (.tup ds)
  | wt {a : Addr} {vs : List V} {ds : List D} : SqT K H a vs → DenL K H vs ds → Den K H (.ref a) (.wt ds)
  | lst {a : Addr} {vs : List V} {ds : List D} : H a = some (.lst vs) → DenL K H vs ds → Den K H (.ref a) (.lst ds)
  | ptup {a : Addr} {o : Obj} {vs : List V} {ds : List D} : H a = some (.frz o (.tup vs)) → o.dict = none → o.cls = .type "tuple" → DenL K H vs ds → Den K H (.ref a) (.ptup ds)
  | sl {a : Addr} {vs : List V} {ds : List D} : SqL K H a vs → DenL K H vs ds → Den K H (.ref a) (.sl ds)
  | dT {a : Addr} {o : Obj} {ws : List (List Key × V)} {kvs : List (List Key × D)} : H a = some (.frz o (.dT ws)) → DenT K H ws kvs → Den K H (.ref a) (.dT kvs)
  | dK {a : Addr} {o : Obj} {ws : List (Key × V)} {kvs : List (Key × D)} : H a = some (.frz o (.dK ws)) → DenK K H ws kvs → Den K H (.ref a) (.dK kvs)
inductive DenL (K : PySem.W.Frag) (H : Hp) : List V → List D → Prop
  | nil : DenL K H [] []
  | cons {v : V} {vs : List V} {d : D} {ds : List D} : Den K H v d → DenL K H vs ds → DenL K H (v :: vs) (d :: ds)
inductive DenT (K : PySem.W.Frag) (H : Hp) : List (List Key × V) → List (List Key × D) → Prop
  | nil : DenT K H [] []
  | cons {k : List Key} {v : V} {ws : List (List Key × V)} {d : D} {kvs : List (List Key × D)} : Den K H v d → DenT K H ws kvs → DenT K H ((k, v) :: ws) ((k, d) :: kvs)
inductive DenK (K : PySem.W.Frag) (H : Hp) : List (Key × V) → List (Key × D) → Prop
  | nil : DenK K H [] []
  | cons {k : Key} {v : V} {ws : List (Key × V)} {d : D} {kvs : List (Key × D)} : Den K H v d → DenK K H ws kvs → DenK K H ((k, v) :: ws) ((k, d) :: kvs)
end

section
variable {K : PySem.W.Frag} {H H' : Hp}
mutual
theorem Den.mono (e : Ex H H') : ∀ {v : V} {d : D}, Den K H v d → Den K H' v d
  | _, _, .non => .non
  | _, _, .bl b => .bl b
  | _, _, .int i => .int i
  | _, _, .str x => .str x
  | _, _, .ty n => .ty n
  | _, _, .adr a => .adr a
  | _, _, .tup h l => .tup (e _ _ h) (DenL.mono e l)
  | _, _, .wt h l => .wt (e.sqt h) (DenL.mono e l)
  | _, _, .lst h l => .lst (e _ _ h) (DenL.mono e l)
  | _, _, .sl h l => .sl (e.sql h) (DenL.mono e l)
  | _, _, .ptup h h1 h2 l => .ptup (e _ _ h) h1 h2 (DenL.mono e l)
  | _, _, .dT h l => .dT (e _ _ h) (DenT.mono e l)
  | _, _, .dK h l => .dK (e _ _ h) (DenK.mono e l)
theorem DenL.mono (e : Ex H H') : ∀ {vs : List V} {ds : List D}, DenL K H vs ds → DenL K H' vs ds
  | _, _, .nil => .nil
  | _, _, .cons h l => .cons (Den.mono e h) (DenL.mono e l)
theorem DenT.mono (e : Ex H H') : ∀ {vs : List (List Key × V)} {ds : List (List Key × D)}, DenT K H vs ds → DenT K H' vs ds
  | _, _, .nil => .nil
  | _, _, .cons h l => .cons (Den.mono e h) (DenT.mono e l)
theorem DenK.mono (e : Ex H H') : ∀ {vs : List (Key × V)} {ds : List (Key × D)}, DenK K H vs ds → DenK K H' vs ds
  | _, _, .nil => .nil
  | _, _, .cons h l => .cons (Den.mono e h) (DenK.mono e l)
end
theorem DenL.len : ∀ {vs : List V} {ds : List D}, DenL K H vs ds → vs.length = ds.length
  | _, _, .nil => rfl
  | _, _, .cons _ l => congrArg (· + 1) l.len
theorem DenL.get : ∀ {vs : List V} {ds : List D} {i : Nat} {d : D}, DenL K H vs ds → ds[i]? = some d → ∃ v, vs[i]? = some v ∧ Den K H v d
  | _, _, i, _, .nil, h => by simp at h
  | _, _, 0, _, .cons h _, e => by
    cases e; exact ⟨_, rfl, h⟩
  | _, _, i + 1, _, .cons _ l, e => by
    obtain ⟨v, e1, h⟩ := DenL.get (i := i) l (by simpa using e)
    exact ⟨v, by simpa using e1, h⟩
theorem DenL.get' : ∀ {vs : List V} {ds : List D} {i : Nat} {v : V}, DenL K H vs ds → vs[i]? = some v → ∃ d, ds[i]? = some d ∧ Den K H v d
  | _, _, i, _, .nil, h => by simp at h
  | _, _, 0, _, .cons h _, e => by
    cases e; exact ⟨_, rfl, h⟩
  | _, _, i + 1, _, .cons _ l, e => by
    obtain ⟨v, e1, h⟩ := DenL.get' (i := i) l (by simpa using e)
    exact ⟨v, by simpa using e1, h⟩
theorem DenL.append : ∀ {vs ws : List V} {ds es : List D}, DenL K H vs ds → DenL K H ws es → DenL K H (vs ++ ws) (ds ++ es)
  | _, _, _, _, .nil, r => r
  | _, _, _, _, .cons h l, r => .cons h (DenL.append l r)
theorem DenL.take : ∀ {vs : List V} {ds : List D} (n : Nat), DenL K H vs ds → DenL K H (vs.take n) (ds.take n)
  | _, _, 0, _ => by simp; exact .nil
  | _, _, n + 1, .nil => by simp; exact .nil
  | _, _, n + 1, .cons h l => .cons h (DenL.take n l)
theorem DenL.drop : ∀ {vs : List V} {ds : List D} (n : Nat), DenL K H vs ds → DenL K H (vs.drop n) (ds.drop n)
  | _, _, 0, h => h
  | _, _, n + 1, .nil => .nil
  | _, _, n + 1, .cons _ l => DenL.drop n l
theorem DenL.ints : ∀ (ns : List Int), DenL K H (ns.map V.int) (ns.map D.int)
  | [] => .nil
  | i :: r => .cons (.int i) (DenL.ints r)
theorem DenL.ints_inv : ∀ {vs : List V} {ns : List Int}, DenL K H vs (ns.map D.int) → vs = ns.map V.int
  | _, [], .nil => rfl
  | _, i :: r, .cons h l => by
    cases h
    rw [DenL.ints_inv l]; rfl
end

/-! ### the world: Hb the data, F what others hold, o what is one's own (lists, dicts that change) -/
abbrev Own := List (Addr × D)
def Real (K : PySem.W.Frag) (Hb H : Hp) (a : Addr) : D → Prop
  | .lst ds => ∃ vs, H a = some (.lst vs) ∧ DenL K Hb vs ds
  | .dT kvs => ∃ ws, H a = some (.dT ws) ∧ DenT K Hb ws kvs
  | .dK kvs => ∃ ws, H a = some (.dK ws) ∧ DenK K Hb ws kvs
  | .fT od ws kvs => H a = some (.frz od (.dT ws)) ∧ DenT K Hb ws kvs
  | _ => False
structure Wd (K : PySem.W.Frag) (Hb F : Hp) (o : Own) (H : Hp) : Prop where
  b : Ex Hb H
  f : Ex F H
  dj : ∀ a, Hb a = none ∨ F a = none ∨ ∃ xs, F a = some (.tup xs)
  own : ∀ p ∈ o, Hb p.1 = none ∧ F p.1 = none ∧ Real K Hb H p.1 p.2
  nd : (o.map (·.1)).Nodup
section
variable {K : PySem.W.Frag} {Hb F H : Hp} {o : Own}
theorem Real.mono {Hb' H' : Hp} {a : Addr} (e : Ex Hb Hb') (e2 : ∀ u, H a = some u → H' a = some u) : ∀ {d : D}, Real K Hb H a d → Real K Hb' H' a d
  | .lst _, ⟨vs, h, l⟩ => ⟨vs, e2 _ h, l.mono e⟩
  | .dT _, ⟨vs, h, l⟩ => ⟨vs, e2 _ h, l.mono e⟩
  | .dK _, ⟨vs, h, l⟩ => ⟨vs, e2 _ h, l.mono e⟩
  | .fT _ _ _, ⟨h, l⟩ => ⟨e2 _ h, l.mono e⟩
theorem Real.some {a : Addr} : ∀ {d : D}, Real K Hb H a d → ∃ u, H a = some u
  | .lst _, ⟨_, h, _⟩ => ⟨_, h⟩
  | .dT _, ⟨_, h, _⟩ => ⟨_, h⟩
  | .dK _, ⟨_, h, _⟩ => ⟨_, h⟩
  | .fT _ _ _, ⟨h, _⟩ => ⟨_, h⟩
/-- a new object of data -/
theorem Wd.new (w : Wd K Hb F o H) {p : Addr} {u : HO} (h : H p = none) : Wd K (upd Hb p u) F o (upd H p u) ∧ Ex Hb (upd Hb p u) := by
  have hb := w.b.none h
  have hf := w.f.none h
  refine ⟨⟨fun a x e => ?_, w.f.trans (Ex.new h), fun a => ?_, fun q hq => ?_, w.nd⟩, Ex.new hb⟩
  · by_cases c : a = p
    · subst c; rw [upd_same] at e ⊢; exact e
    · rw [upd_ne c] at e ⊢; exact w.b a x e
  · by_cases c : a = p
    · subst c; exact .inr (.inl hf)
    · rw [upd_ne c]; exact w.dj a
  · obtain ⟨h1, h2, h3⟩ := w.own q hq
    have c : q.1 ≠ p := by
      obtain ⟨u, hu⟩ := h3.some
      exact ne_of_none hu h
    exact ⟨by rw [upd_ne c]; exact h1, h2, h3.mono (Ex.new hb) fun u hu => by rw [upd_ne c]; exact hu⟩
/-- .. of one's own -/
theorem Wd.newOwn (w : Wd K Hb F o H) {p : Addr} {u : HO} {d : D} (h : H p = none) (r : Real K Hb (upd H p u) p d) : Wd K Hb F ((p, d) :: o) (upd H p u) := by
  refine ⟨w.b.trans (Ex.new h), w.f.trans (Ex.new h), w.dj, fun q hq => ?_, ?_⟩
  · rcases List.mem_cons.mp hq with rfl | hq
    · exact ⟨w.b.none h, w.f.none h, r⟩
    · obtain ⟨h1, h2, h3⟩ := w.own q hq
      have c : q.1 ≠ p := by
        obtain ⟨u, hu⟩ := h3.some
        exact ne_of_none hu h
      exact ⟨h1, h2, h3.mono (Ex.refl _) fun u hu => by rw [upd_ne c]; exact hu⟩
  · rw [List.map_cons, List.nodup_cons]
    refine ⟨fun hm => ?_, w.nd⟩
    obtain ⟨q, hq, e⟩ := List.mem_map.mp hm
    obtain ⟨u, hu⟩ := (w.own q hq).2.2.some
    rw [e, h] at hu; cases hu
def setO (o : Own) (a : Addr) (d : D) : Own := o.map fun p => if p.1 = a then (a, d) else p
theorem setO_keys (o : Own) (a : Addr) (d : D) : (setO o a d).map (·.1) = o.map (·.1) := by
  unfold setO
  rw [List.map_map]
  apply List.map_congr_left
  intro p _
  show (if p.1 = a then (a, d) else p).1 = p.1
  split
  · rename_i h; exact h.symm
  · rfl
/-- one's own object changes -/
theorem Wd.write (w : Wd K Hb F o H) {p : Addr} {d0 : D} {u : HO} {d : D} (hp : (p, d0) ∈ o) (r : Real K Hb (upd H p u) p d) : Wd K Hb F (setO o p d) (upd H p u) := by
  obtain ⟨b0, f0, _⟩ := w.own _ hp
  refine ⟨fun a x e => ?_, fun a x e => ?_, w.dj, fun q hq => ?_, by rw [setO_keys]; exact w.nd⟩
  · rw [upd_ne (ne_of_none e b0)]; exact w.b a x e
  · rw [upd_ne (ne_of_none e f0)]; exact w.f a x e
  · obtain ⟨q0, hq0, e⟩ := List.mem_map.mp hq
    by_cases c : q0.1 = p
    · rw [if_pos c] at e
      subst e
      exact ⟨b0, f0, r⟩
    · rw [if_neg c] at e
      subst e
      obtain ⟨h1, h2, h3⟩ := w.own q0 hq0
      exact ⟨h1, h2, h3.mono (Ex.refl _) fun u hu => by rw [upd_ne c]; exact hu⟩
/-- a tuple that is there becomes data -/
theorem Wd.seen (w : Wd K Hb F o H) {b : Addr} {vs : List V} (hb : H b = some (.tup vs)) : Ex Hb (upd Hb b (.tup vs)) ∧ Wd K (upd Hb b (.tup vs)) F o H := by
  have ex : Ex Hb (upd Hb b (.tup vs)) := fun a u e => by
    by_cases c : a = b
    · subst c
      have z := w.b a u e
      rw [hb] at z; cases z
      exact upd_same
    · rw [upd_ne c]; exact e
  refine ⟨ex, ⟨fun a u e => ?_, w.f, fun a => ?_, fun q hq => ?_, w.nd⟩⟩
  · by_cases c : a = b
    · subst c; rw [upd_same] at e; cases e; exact hb
    · rw [upd_ne c] at e; exact w.b a u e
  · by_cases c : a = b
    · subst c
      cases q : F a with
      | none => exact .inr (.inl rfl)
      | some u =>
        have z := w.f a u q
        rw [hb] at z; cases z
        exact .inr (.inr ⟨vs, rfl⟩)
    · rw [upd_ne c]; exact w.dj a
  · obtain ⟨h1, h2, h3⟩ := w.own q hq
    have c : q.1 ≠ b := fun c => by
      obtain ⟨p, d⟩ := q
      simp only at c
      subst c
      cases d with
      | lst ds => obtain ⟨_, h, _⟩ := h3; rw [hb] at h; cases h
      | dT ds => obtain ⟨_, h, _⟩ := h3; rw [hb] at h; cases h
      | dK ds => obtain ⟨_, h, _⟩ := h3; rw [hb] at h; cases h
      | fT od ws ds => obtain ⟨h, _⟩ := h3; rw [hb] at h; cases h
      | _ => exact h3.elim
    exact ⟨by rw [upd_ne c]; exact h1, h2, h3.mono ex fun u hu => hu⟩
/-- forget what is one's own -/
theorem Wd.drop (w : Wd K Hb F o H) {o' : Own} (s : o'.Sublist o) : Wd K Hb F o' H :=
  ⟨w.b, w.f, w.dj, fun p hp => w.own p (s.subset hp), w.nd.sublist (s.map _)⟩
/-- what is one's own becomes data, as u -/
theorem Wd.pubU (w : Wd K Hb F o H) {p : Addr} {d : D} {o' : Own} (hp : (p, d) ∈ o) (s : o'.Sublist o) (hn : p ∉ o'.map (·.1)) (u : HO) : Ex Hb (upd Hb p u) ∧ Wd K (upd Hb p u) F o' (upd H p u) := by
  obtain ⟨b0, f0, r⟩ := w.own _ hp
  have ex : Ex Hb (upd Hb p u) := Ex.new b0
  refine ⟨ex, ⟨fun a x e => ?_, fun a x e => ?_, fun a => ?_, fun q hq => ?_, w.nd.sublist (s.map _)⟩⟩
  · by_cases c : a = p
    · subst c; rw [upd_same] at e ⊢; exact e
    · rw [upd_ne c] at e ⊢; exact w.b a x e
  · rw [upd_ne (ne_of_none e f0)]; exact w.f a x e
  · by_cases c : a = p
    · subst c; exact .inr (.inl f0)
    · rw [upd_ne c]; exact w.dj a
  · obtain ⟨h1, h2, h3⟩ := w.own q (s.subset hq)
    have c : q.1 ≠ p := fun c => hn (c ▸ List.mem_map_of_mem hq)
    exact ⟨by rw [upd_ne c]; exact h1, h2, h3.mono ex fun u hu => by rw [upd_ne c]; exact hu⟩
theorem Wd.pubL (w : Wd K Hb F o H) {p : Addr} {ds : List D} {o' : Own} (hp : (p, .lst ds) ∈ o) (s : o'.Sublist o) (hn : p ∉ o'.map (·.1)) : ∃ Hb', Ex Hb Hb' ∧ Wd K Hb' F o' H ∧ Den K Hb' (.ref p) (.lst ds) := by
  obtain ⟨vs, h, l⟩ := (w.own _ hp).2.2
  obtain ⟨ex, w2⟩ := w.pubU hp s hn (.lst vs)
  rw [show upd H p (.lst vs) = H from funext fun a => by
    by_cases c : a = p
    · subst c; rw [upd_same, h]
    · rw [upd_ne c]] at w2
  exact ⟨_, ex, w2, .lst upd_same (l.mono ex)⟩
end

/-! ### stores -/
abbrev Sto := List (Option D)
structure Stt (K : PySem.W.Frag) (Hb : Hp) (γ : Sto) (σ : L2.St) : Prop where
  len : γ.length = σ.length
  at' : ∀ (i : Nat) (d : D), γ[i]? = some (some d) → ∃ v, σ[i]? = some (some v) ∧ Den K Hb v d
section
variable {K : PySem.W.Frag} {Hb Hb' : Hp} {γ : Sto} {σ : L2.St}
theorem Stt.mono (s : Stt K Hb γ σ) (e : Ex Hb Hb') : Stt K Hb' γ σ := ⟨s.len, fun i d h => let ⟨v, a, b⟩ := s.at' i d h; ⟨v, a, b.mono e⟩⟩
theorem Stt.set (s : Stt K Hb γ σ) {v : V} {d : D} (i : Nat) (h : Den K Hb v d) : Stt K Hb (γ.set i (some d)) (σ.set i (some v)) := by
  refine ⟨by rw [List.length_set, List.length_set]; exact s.len, fun j e q => ?_⟩
  by_cases c : i = j
  · subst c
    by_cases l : i < γ.length
    · rw [List.getElem?_set_self l] at q
      cases q
      exact ⟨v, List.getElem?_set_self (by rw [← s.len]; exact l), h⟩
    · rw [List.getElem?_eq_none (by rw [List.length_set]; omega)] at q; cases q
  · rw [List.getElem?_set_ne c] at q ⊢
    exact s.at' j e q
theorem Stt.unset (s : Stt K Hb γ σ) (i : Nat) : Stt K Hb (γ.set i none) (σ.set i none) := by
  refine ⟨by rw [List.length_set, List.length_set]; exact s.len, fun j e q => ?_⟩
  by_cases c : i = j
  · subst c
    by_cases l : i < γ.length
    · rw [List.getElem?_set_self l] at q; cases q
    · rw [List.getElem?_eq_none (by rw [List.length_set]; omega)] at q; cases q
  · rw [List.getElem?_set_ne c] at q ⊢
    exact s.at' j e q
def wipeG (γ : Sto) : List Nat → Sto
  | [] => γ
  | v :: vs => (wipeG γ vs).set v none
theorem Stt.wipe (s : Stt K Hb γ σ) : ∀ vs : List Nat, Stt K Hb (wipeG γ vs) (L2.wipe σ vs)
  | [] => s
  | v :: vs => (Stt.wipe s vs).unset v
end
end J
end

section
set_option Elab.async false
set_option linter.all false
set_option maxRecDepth 100000
namespace J
open PySem PySem.Spec PyProof.Rows L2

theorem PE.imp {X : Cx} {e : Expr} {t t' : TE} (h : PE X e t) (i : ∀ σ H Q, t' σ H Q → t σ H Q) : PE X e t' := ⟨fun pins s σ H Q I q => h.run pins s σ H Q I (i σ H Q q)⟩
theorem PT.imp {X : Cx} {e : Expr} {t t' : TT} (h : PT X e t) (i : ∀ σ H Q, t' σ H Q → t σ H Q) : PT X e t' := ⟨fun pins s σ H Q I q => h.run pins s σ H Q I (i σ H Q q)⟩
theorem PA.imp {X : Cx} {e : List Expr} {t t' : TA} (h : PA X e t) (i : ∀ σ H Q, t' σ H Q → t σ H Q) : PA X e t' := ⟨fun pos pins s σ H Q I q => h.run pos pins s σ H Q I (i σ H Q q)⟩
theorem PS.imp {X : Cx} {e : Stmt} {t t' : TS} (h : PS X e t) (i : ∀ D σ H, t' D σ H → t D σ H) : PS X e t' := ⟨fun pins s σ H D I q => h.run pins s σ H D I (i D σ H q)⟩
theorem PSs.imp {X : Cx} {e : List Stmt} {t t' : TS} (h : PSs X e t) (i : ∀ D σ H, t' D σ H → t D σ H) : PSs X e t' := ⟨fun pins s σ H D I q => h.run pins s σ H D I (i D σ H q)⟩

/-! ### what is worth what -/
def tE (K : PySem.W.Frag) (γ : Sto) (o : Own) (d : D) (o' : Own) : TE := fun σ H Q =>
  ∃ Hb F, Wd K Hb F o H ∧ Stt K Hb γ σ ∧ ∀ v Hb' H', Ex Hb Hb' → Wd K Hb' F o' H' → Den K Hb' v d → Q v H'
def tT (K : PySem.W.Frag) (γ : Sto) (o : Own) (b : Bool) (o' : Own) : TT := fun σ H Q =>
  ∃ Hb F, Wd K Hb F o H ∧ Stt K Hb γ σ ∧ ∀ Hb' H', Ex Hb Hb' → Wd K Hb' F o' H' → Q b H'
def tA (K : PySem.W.Frag) (γ : Sto) (o : Own) (ds : List D) (o' : Own) : TA := fun σ H Q =>
  ∃ Hb F, Wd K Hb F o H ∧ Stt K Hb γ σ ∧ ∀ vs Hb' H', Ex Hb Hb' → Wd K Hb' F o' H' → DenL K Hb' vs ds → Q vs H'
structure RE (X : Cx) (e : Expr) (γ : Sto) (o : Own) (d : D) (o' : Own) : Prop where
  p : PE X e (tE X.K γ o d o')
structure RT (X : Cx) (e : Expr) (γ : Sto) (o : Own) (b : Bool) (o' : Own) : Prop where
  p : PT X e (tT X.K γ o b o')
structure RA (X : Cx) (es : List Expr) (γ : Sto) (o : Own) (ds : List D) (o' : Own) : Prop where
  p : PA X es (tA X.K γ o ds o')
/-- a rule of values, in data -/
def OpD (K : PySem.W.Frag) (r : R2) (o : Own) (a b d : D) : Prop := ∀ (Hb F H : Hp) (x y : V) (Q : VK), Wd K Hb F o H → Den K Hb x a → Den K Hb y b →
  (∀ v Hb' H', Ex Hb Hb' → Wd K Hb' F o H' → Den K Hb' v d → Q v H') → r x y H Q
def OpD1 (K : PySem.W.Frag) (r : V → Hp → VK → Prop) (o : Own) (a d : D) : Prop := ∀ (Hb F H : Hp) (x : V) (Q : VK), Wd K Hb F o H → Den K Hb x a →
  (∀ v Hb' H', Ex Hb Hb' → Wd K Hb' F o H' → Den K Hb' v d → Q v H') → r x H Q
def CaD (K : PySem.W.Frag) (r : List V → Hp → VK → Prop) (o : Own) (ds : List D) (d : D) : Prop := ∀ (Hb F H : Hp) (vs : List V) (Q : VK), Wd K Hb F o H → DenL K Hb vs ds →
  (∀ v Hb' H', Ex Hb Hb' → Wd K Hb' F o H' → Den K Hb' v d → Q v H') → r vs H Q

section
variable {X : Cx} {γ : Sto} {o o1 o2 o3 : Own} {a b c e : Expr} {es : List Expr} {d d1 d2 d3 : D} {ds : List D} {pos : Pos}

theorem re_var (i : Nat) {x : Str} (hg : γ[i]? = some (some d)) (hN : X.N[i]? = some x) (hv : Vis X.env.scope x) (hd : (x == ("__debug__" : Str)) = false := by decide) (hcd : (x == ("__classdict__" : Str)) = false := by decide) : RE X (.Name x pos) γ o d o :=
  ⟨PE.imp (pe_var hN hv hd hcd) fun σ H Q ⟨Hb, F, w, s, q⟩ => let ⟨v, h1, h2⟩ := s.at' i d hg; ⟨v, h1, q v Hb H (Ex.refl _) w h2⟩⟩
theorem re_int {i : Int} {j} : RE X (.Constant (.int i) j pos) γ o (.int i) o := ⟨PE.imp pe_int fun σ H Q ⟨Hb, F, w, s, q⟩ => q _ Hb H (Ex.refl _) w (.int i)⟩
theorem re_bl {i : Bool} {j} : RE X (.Constant (.bool i) j pos) γ o (.bl i) o := ⟨PE.imp pe_bl fun σ H Q ⟨Hb, F, w, s, q⟩ => q _ Hb H (Ex.refl _) w (.bl i)⟩
theorem re_str {x : Str} {j} : RE X (.Constant (.str x) j pos) γ o (.str x) o := ⟨PE.imp pe_str fun σ H Q ⟨Hb, F, w, s, q⟩ => q _ Hb H (Ex.refl _) w (.str x)⟩
theorem re_non {j} : RE X (.Constant .none j pos) γ o .non o := ⟨PE.imp pe_non fun σ H Q ⟨Hb, F, w, s, q⟩ => q _ Hb H (Ex.refl _) w .non⟩
/-- a built-in class as a value -/
theorem re_ty {x : Str} {n : String} (hg : Gl X x) (hm : X.mg x = none) (hv : bootBuiltins x = some (.type n)) (hn : x ≠ "__name__" := by decide) (hd : (x == ("__debug__" : Str)) = false := by decide) : RE X (.Name x pos) γ o (.ty n) o :=
  ⟨PE.imp (pe_bltn (v := .ty n) hg hm hv rfl hn hd) fun σ H Q ⟨Hb, F, w, s, q⟩ => q _ Hb H (Ex.refl _) w (.ty n)⟩
/-- a constant tuple of the module -/
theorem re_con {x : Str} {p : Addr} {vs : List V} (hg : Gl X x) (hm : X.mg x = some (.ref p)) (ht : ∀ H, SqT X.K H p vs) (hl : ∀ H, DenL X.K H vs ds) (hd : (x == ("__debug__" : Str)) = false := by decide) : RE X (.Name x pos) γ o (.wt ds) o :=
  ⟨PE.imp (pe_glob (v := .ref p) hg hm rfl hd) fun σ H Q ⟨Hb, F, w, s, q⟩ => q _ Hb H (Ex.refl _) w (.wt (ht Hb) (hl Hb))⟩

theorem ra_nil : RA X [] γ o [] o := ⟨PA.imp pa_nil fun σ H Q ⟨Hb, F, w, s, q⟩ => q _ Hb H (Ex.refl _) w .nil⟩
theorem ra_cons (ha : RE X e γ o d o1) (hr : RA X es γ o1 ds o2) (hs : starEach (e :: es) X.env = (false, eval e X.env) :: starEach es X.env := by rfl) : RA X (e :: es) γ o (d :: ds) o2 :=
  ⟨PA.imp (pa_cons ha.p hr.p hs) fun σ H Q ⟨Hb, F, w, s, q⟩ => ⟨Hb, F, w, s, fun v Hb1 H1 e1 w1 n1 => ⟨Hb1, F, w1, s.mono e1, fun vs Hb2 H2 e2 w2 n2 => q _ Hb2 H2 (e1.trans e2) w2 (.cons (n1.mono e2) n2)⟩⟩⟩
theorem re_tup {k} (h : RA X es γ o ds o1) (hl : ds.length ≤ 100000) : RE X (.Tuple es k pos) γ o (.tup ds) o1 :=
  ⟨PE.imp (pe_tup h.p) fun σ H Q ⟨Hb, F, w, s, q⟩ => ⟨Hb, F, w, s, fun vs Hb1 H1 e1 w1 n1 => ⟨by rw [n1.len]; exact Nat.le_trans hl (by decide), fun p hp => by
    obtain ⟨w2, e2⟩ := w1.new (u := .tup vs) hp
    exact q _ _ _ (e1.trans e2) w2 (.tup upd_same (n1.mono e2))⟩⟩⟩
theorem re_lst (h : RA X es γ o ds o1) (hl : ds.length ≤ 100000) : RE X (.List es pos) γ o (.lst ds) o1 :=
  ⟨PE.imp (pe_lst h.p) fun σ H Q ⟨Hb, F, w, s, q⟩ => ⟨Hb, F, w, s, fun vs Hb1 H1 e1 w1 n1 => ⟨by rw [n1.len]; exact Nat.le_trans hl (by decide), fun p hp => by
    obtain ⟨w2, e2⟩ := w1.new (u := .lst vs) hp
    exact q _ _ _ (e1.trans e2) w2 (.lst upd_same (n1.mono e2))⟩⟩⟩

/-! ### operators -/
theorem re_op {op : Operator} {r : R2} (ho : OpR X (binaryOp op) r) (ha : RE X a γ o d1 o1) (hb : RE X b γ o1 d2 o2) (h : OpD X.K r o2 d1 d2 d) : RE X (.BinOp a op b pos) γ o d o2 :=
  ⟨PE.imp (pe_op ho ha.p hb.p) fun σ H Q ⟨Hb, F, w, s, q⟩ => ⟨Hb, F, w, s, fun x Hb1 H1 e1 w1 n1 => ⟨Hb1, F, w1, s.mono e1, fun y Hb2 H2 e2 w2 n2 =>
    h Hb2 F H2 x y Q w2 (n1.mono e2) n2 fun v Hb3 H3 e3 w3 n3 => q v Hb3 H3 (e1.trans (e2.trans e3)) w3 n3⟩⟩⟩
theorem re_cmp {op : CmpOp} {r : R2} (ho : OpR X (compareOp op) r) (hm : behindInMarks op b = false) (ha : RE X a γ o d1 o1) (hb : RE X b γ o1 d2 o2) (h : OpD X.K r o2 d1 d2 d) : RE X (.Compare a [op] [b] pos) γ o d o2 :=
  ⟨PE.imp (pe_cmpR ho ha.p hb.p hm) fun σ H Q ⟨Hb, F, w, s, q⟩ => ⟨Hb, F, w, s, fun x Hb1 H1 e1 w1 n1 => ⟨Hb1, F, w1, s.mono e1, fun y Hb2 H2 e2 w2 n2 =>
    h Hb2 F H2 x y Q w2 (n1.mono e2) n2 fun v Hb3 H3 e3 w3 n3 => q v Hb3 H3 (e1.trans (e2.trans e3)) w3 n3⟩⟩⟩
theorem rt_cmp {op : CmpOp} {r : R2} {k : Bool} (ho : OpR X (compareOp op) r) (hm : behindInMarks op b = false) (ha : RE X a γ o d1 o1) (hb : RE X b γ o1 d2 o2) (h : OpD X.K r o2 d1 d2 (.bl k)) : RT X (.Compare a [op] [b] pos) γ o k o2 :=
  ⟨PT.imp (pt_cmpR ho ha.p hb.p hm) fun σ H Q ⟨Hb, F, w, s, q⟩ => ⟨Hb, F, w, s, fun x Hb1 H1 e1 w1 n1 => ⟨Hb1, F, w1, s.mono e1, fun y Hb2 H2 e2 w2 n2 =>
    h Hb2 F H2 x y _ w2 (n1.mono e2) n2 fun v Hb3 H3 e3 w3 n3 => by
      cases n3
      exact ⟨k, rfl, q Hb3 H3 (e1.trans (e2.trans e3)) w3⟩⟩⟩⟩
theorem re_un {op : UnaryOp} {r : V → Hp → VK → Prop} (ho : UnR X (unaryOp op) r) (ha : RE X a γ o d1 o1) (h : OpD1 X.K r o1 d1 d) : RE X (.UnaryOp op a pos) γ o d o1 :=
  ⟨PE.imp (pe_un ho ha.p) fun σ H Q ⟨Hb, F, w, s, q⟩ => ⟨Hb, F, w, s, fun x Hb1 H1 e1 w1 n1 =>
    h Hb1 F H1 x Q w1 n1 fun v Hb3 H3 e3 w3 n3 => q v Hb3 H3 (e1.trans e3) w3 n3⟩⟩
/-- a < b < c -/
theorem re_chain {op op' : CmpOp} {r r' : R2} {k : Bool} (ho : OpR X (compareOp op) r) (ho' : OpR X (compareOp op') r') (ha : RE X a γ o d1 o1) (hb : RE X b γ o1 d2 o2) (h : OpD X.K r o2 d1 d2 (.bl k)) (hc : RE X c γ o2 d3 o3) (h' : OpD X.K r' o3 d2 d3 d)
    (hk : k = true) (hm : lastMarks [op, op'] [b, c] = false := by rfl) : RE X (.Compare a [op, op'] [b, c] pos) γ o d o3 := by
  subst hk
  exact ⟨PE.imp (pe_chain ho ho' ha.p hb.p hc.p hm) fun σ H Q ⟨Hb, F, w, s, q⟩ => ⟨Hb, F, w, s, fun x Hb1 H1 e1 w1 n1 => ⟨Hb1, F, w1, s.mono e1, fun y Hb2 H2 e2 w2 n2 =>
    h Hb2 F H2 x y _ w2 (n1.mono e2) n2 fun v Hb3 H3 e3 w3 n3 => by
      cases n3
      refine ⟨true, rfl, ?_⟩
      rw [if_pos rfl]
      exact ⟨Hb3, F, w3, s.mono (e1.trans (e2.trans e3)), fun z Hb4 H4 e4 w4 n4 => h' Hb4 F H4 y z Q w4 (n2.mono (e3.trans e4)) n4 fun v5 Hb5 H5 e5 w5 n5 => q v5 Hb5 H5 ((e1.trans (e2.trans e3)).trans (e4.trans e5)) w5 n5⟩⟩⟩⟩
theorem re_chainF {op op' : CmpOp} {r r' : R2} {tc : TE} {k : Bool} (ho : OpR X (compareOp op) r) (ho' : OpR X (compareOp op') r') (ha : RE X a γ o d1 o1) (hb : RE X b γ o1 d2 o2) (h : OpD X.K r o2 d1 d2 (.bl k)) (hc : PE X c tc)
    (hk : k = false) (hm : lastMarks [op, op'] [b, c] = false := by rfl) : RE X (.Compare a [op, op'] [b, c] pos) γ o (.bl false) o2 := by
  subst hk
  exact ⟨PE.imp (pe_chain ho ho' ha.p hb.p hc hm) fun σ H Q ⟨Hb, F, w, s, q⟩ => ⟨Hb, F, w, s, fun x Hb1 H1 e1 w1 n1 => ⟨Hb1, F, w1, s.mono e1, fun y Hb2 H2 e2 w2 n2 =>
    h Hb2 F H2 x y _ w2 (n1.mono e2) n2 fun v Hb3 H3 e3 w3 n3 => by
      cases n3
      refine ⟨false, rfl, ?_⟩
      rw [if_neg (by decide)]
      exact q _ Hb3 H3 (e1.trans (e2.trans e3)) w3 (.bl false)⟩⟩⟩

/-! ### tests -/
theorem rt_val {k : Bool} (h : RE X e γ o (.bl k) o1) (he : ∀ whole, isTrue e X.env whole = (do let v ← whole; standAt e.pos; holding [v] (truthy v)) := by intro _; rfl) : RT X e γ o k o1 :=
  ⟨PT.imp (pt_val h.p he) fun σ H Q ⟨Hb, F, w, s, q⟩ => ⟨Hb, F, w, s, fun x Hb1 H1 e1 w1 n1 => by
    cases n1
    exact ⟨k, rfl, q Hb1 H1 e1 w1⟩⟩⟩
theorem rt_not {k : Bool} (h : RT X e γ o k o1) : RT X (.UnaryOp .Not e pos) γ o (!k) o1 :=
  ⟨PT.imp (pt_not h.p) fun σ H Q ⟨Hb, F, w, s, q⟩ => ⟨Hb, F, w, s, fun Hb1 H1 e1 w1 => q Hb1 H1 e1 w1⟩⟩
theorem re_not {k : Bool} (h : RE X e γ o (.bl k) o1) : RE X (.UnaryOp .Not e pos) γ o (.bl (!k)) o1 :=
  ⟨PE.imp (pe_not h.p) fun σ H Q ⟨Hb, F, w, s, q⟩ => ⟨Hb, F, w, s, fun x Hb1 H1 e1 w1 n1 => by
    cases n1
    exact ⟨k, rfl, q _ Hb1 H1 e1 w1 (.bl _)⟩⟩⟩
/-- and, or of tests (RW: whatever the whole is) -/
structure RW (X : Cx) (e : Expr) (γ : Sto) (o : Own) (b : Bool) (o' : Own) : Prop where
  p : PW X e (tT X.K γ o b o')
theorem PW.imp {X : Cx} {e : Expr} {t t' : TT} (h : PW X e t) (i : ∀ σ H Q, t' σ H Q → t σ H Q) : PW X e t' := ⟨fun wh pins s σ H Q I q => h.run wh pins s σ H Q I (i σ H Q q)⟩
theorem rt_w {k : Bool} (h : RW X e γ o k o1) : RT X e γ o k o1 := ⟨h.p.pt⟩
theorem rw_and1 {k : Bool} (h : RT X a γ o k o1) : RW X (.BoolOp .And [a] pos) γ o k o1 := ⟨pw_and1 h.p⟩
theorem rw_or1 {k : Bool} (h : RT X a γ o k o1) : RW X (.BoolOp .Or [a] pos) γ o k o1 := ⟨pw_or1 h.p⟩
/-- the second part may be of no worth where it is not asked -/
theorem rw_and {k l : Bool} {rest : List Expr} (ha : RT X a γ o k o1) (hb : RW X (.BoolOp .And (b :: rest) pos) γ o1 l o2) (ho : k = false → o2 = o1) : RW X (.BoolOp .And (a :: b :: rest) pos) γ o (k && l) o2 :=
  ⟨PW.imp (pw_and ha.p hb.p) fun σ H Q ⟨Hb, F, w, s, q⟩ => ⟨Hb, F, w, s, fun Hb1 H1 e1 w1 => by
    cases k with
    | true => exact ⟨Hb1, F, w1, s.mono e1, fun Hb2 H2 e2 w2 => q Hb2 H2 (e1.trans e2) w2⟩
    | false =>
      show Q false H1
      rw [ho rfl] at q
      exact q Hb1 H1 e1 w1⟩⟩
theorem rw_andF {t : TT} {rest : List Expr} (ha : RT X a γ o false o1) (hb : PW X (.BoolOp .And (b :: rest) pos) t) : RW X (.BoolOp .And (a :: b :: rest) pos) γ o false o1 :=
  ⟨PW.imp (pw_and ha.p hb) fun σ H Q ⟨Hb, F, w, s, q⟩ => ⟨Hb, F, w, s, fun Hb1 H1 e1 w1 => by
    show Q false H1
    exact q Hb1 H1 e1 w1⟩⟩
theorem rw_or {k l : Bool} {rest : List Expr} (ha : RT X a γ o k o1) (hb : RW X (.BoolOp .Or (b :: rest) pos) γ o1 l o2) (ho : k = true → o2 = o1) : RW X (.BoolOp .Or (a :: b :: rest) pos) γ o (k || l) o2 :=
  ⟨PW.imp (pw_or ha.p hb.p) fun σ H Q ⟨Hb, F, w, s, q⟩ => ⟨Hb, F, w, s, fun Hb1 H1 e1 w1 => by
    cases k with
    | false => exact ⟨Hb1, F, w1, s.mono e1, fun Hb2 H2 e2 w2 => q Hb2 H2 (e1.trans e2) w2⟩
    | true =>
      show Q true H1
      rw [ho rfl] at q
      exact q Hb1 H1 e1 w1⟩⟩
theorem rw_orT {t : TT} {rest : List Expr} (ha : RT X a γ o true o1) (hb : PW X (.BoolOp .Or (b :: rest) pos) t) : RW X (.BoolOp .Or (a :: b :: rest) pos) γ o true o1 :=
  ⟨PW.imp (pw_or ha.p hb) fun σ H Q ⟨Hb, F, w, s, q⟩ => ⟨Hb, F, w, s, fun Hb1 H1 e1 w1 => by
    show Q true H1
    exact q Hb1 H1 e1 w1⟩⟩
/-- a part that is never asked -/
theorem pe_any : PE X e (fun _ _ _ => False) := ⟨fun _ _ _ _ _ _ h => h.elim⟩
theorem pt_any : PT X e (fun _ _ _ => False) := ⟨fun _ _ _ _ _ _ h => h.elim⟩
theorem pw_any : PW X e (fun _ _ _ => False) := ⟨fun _ _ _ _ _ _ _ h => h.elim⟩
theorem re_one {op} (h : RE X a γ o d o1) : RE X (.BoolOp op [a] pos) γ o d o1 := ⟨pe_one h.p⟩
theorem re_andT {rest : List Expr} (ha : RE X a γ o (.bl true) o1) (hb : RE X (.BoolOp .And (b :: rest) pos) γ o1 d o2) : RE X (.BoolOp .And (a :: b :: rest) pos) γ o d o2 :=
  ⟨PE.imp (pe_and ha.p hb.p) fun σ H Q ⟨Hb, F, w, s, q⟩ => ⟨Hb, F, w, s, fun v Hb1 H1 e1 w1 n1 => by
    cases n1
    refine ⟨true, rfl, ?_⟩
    rw [if_pos rfl]
    exact ⟨Hb1, F, w1, s.mono e1, fun v Hb2 H2 e2 w2 n2 => q v Hb2 H2 (e1.trans e2) w2 n2⟩⟩⟩
theorem re_andF {rest : List Expr} (ha : RE X a γ o (.bl false) o1) : RE X (.BoolOp .And (a :: b :: rest) pos) γ o (.bl false) o1 :=
  ⟨PE.imp (pe_and ha.p pe_any) fun σ H Q ⟨Hb, F, w, s, q⟩ => ⟨Hb, F, w, s, fun v Hb1 H1 e1 w1 n1 => by
    cases n1
    refine ⟨false, rfl, ?_⟩
    rw [if_neg (by decide)]
    exact q _ Hb1 H1 e1 w1 (.bl _)⟩⟩
theorem re_orF {rest : List Expr} (ha : RE X a γ o (.bl false) o1) (hb : RE X (.BoolOp .Or (b :: rest) pos) γ o1 d o2) : RE X (.BoolOp .Or (a :: b :: rest) pos) γ o d o2 :=
  ⟨PE.imp (pe_or ha.p hb.p) fun σ H Q ⟨Hb, F, w, s, q⟩ => ⟨Hb, F, w, s, fun v Hb1 H1 e1 w1 n1 => by
    cases n1
    refine ⟨false, rfl, ?_⟩
    rw [if_neg (by decide)]
    exact ⟨Hb1, F, w1, s.mono e1, fun v Hb2 H2 e2 w2 n2 => q v Hb2 H2 (e1.trans e2) w2 n2⟩⟩⟩
theorem re_orT {rest : List Expr} (ha : RE X a γ o (.bl true) o1) : RE X (.BoolOp .Or (a :: b :: rest) pos) γ o (.bl true) o1 :=
  ⟨PE.imp (pe_or ha.p pe_any) fun σ H Q ⟨Hb, F, w, s, q⟩ => ⟨Hb, F, w, s, fun v Hb1 H1 e1 w1 n1 => by
    cases n1
    refine ⟨true, rfl, ?_⟩
    rw [if_pos rfl]
    exact q _ Hb1 H1 e1 w1 (.bl _)⟩⟩
/-- and, or of two truths, both of worth -/
theorem re_and2 {rest : List Expr} {k l : Bool} (ha : RE X a γ o (.bl k) o) (hb : RE X (.BoolOp .And (b :: rest) pos) γ o (.bl l) o) : RE X (.BoolOp .And (a :: b :: rest) pos) γ o (.bl (k && l)) o := by
  cases k with
  | true => exact re_andT ha hb
  | false => exact re_andF ha
theorem re_or2 {rest : List Expr} {k l : Bool} (ha : RE X a γ o (.bl k) o) (hb : RE X (.BoolOp .Or (b :: rest) pos) γ o (.bl l) o) : RE X (.BoolOp .Or (a :: b :: rest) pos) γ o (.bl (k || l)) o := by
  cases k with
  | true => exact re_orT ha
  | false => exact re_orF ha hb
theorem re_ifT (hc : RT X c γ o true o1) (ha : RE X a γ o1 d o2) : RE X (.IfExp c a b pos) γ o d o2 :=
  ⟨PE.imp (pe_ifExp hc.p ha.p pe_any) fun σ H Q ⟨Hb, F, w, s, q⟩ => ⟨Hb, F, w, s, fun Hb1 H1 e1 w1 => by
    show tE X.K γ o1 d o2 σ H1 Q
    exact ⟨Hb1, F, w1, s.mono e1, fun v Hb2 H2 e2 w2 n2 => q v Hb2 H2 (e1.trans e2) w2 n2⟩⟩⟩
theorem re_ifF (hc : RT X c γ o false o1) (hb : RE X b γ o1 d o2) : RE X (.IfExp c a b pos) γ o d o2 :=
  ⟨PE.imp (pe_ifExp hc.p pe_any hb.p) fun σ H Q ⟨Hb, F, w, s, q⟩ => ⟨Hb, F, w, s, fun Hb1 H1 e1 w1 => by
    show tE X.K γ o1 d o2 σ H1 Q
    exact ⟨Hb1, F, w1, s.mono e1, fun v Hb2 H2 e2 w2 n2 => q v Hb2 H2 (e1.trans e2) w2 n2⟩⟩⟩
theorem re_ifB {k : Bool} (hc : RT X c γ o k o1) (ha : k = true → RE X a γ o1 d o2) (hb : k = false → RE X b γ o1 d o2) : RE X (.IfExp c a b pos) γ o d o2 := by
  cases k with
  | true => exact re_ifT hc (ha rfl)
  | false => exact re_ifF hc (hb rfl)

/-! ### places, calls -/
theorem re_ix {r : R2} (hr : IxR X r) (ha : RE X a γ o d1 o1) (hb : RE X b γ o1 d2 o2) (h : OpD X.K r o2 d1 d2 d) (hs : PlainIx b := by exact fun _ _ => rfl) : RE X (.Subscript a b pos) γ o d o2 :=
  ⟨PE.imp (pe_ix hr ha.p hb.p hs) fun σ H Q ⟨Hb, F, w, s, q⟩ => ⟨Hb, F, w, s, fun x Hb1 H1 e1 w1 n1 => ⟨Hb1, F, w1, s.mono e1, fun y Hb2 H2 e2 w2 n2 =>
    h Hb2 F H2 x y Q w2 (n1.mono e2) n2 fun v Hb3 H3 e3 w3 n3 => q v Hb3 H3 (e1.trans (e2.trans e3)) w3 n3⟩⟩⟩
theorem re_callB {x : Str} {id : String} {r : List V → Hp → VK → Prop} {p : Pos} (hc : CallR X (.builtin id) r) (hg : Gl X x) (hm : X.mg x = none) (hv : bootBuiltins x = some (.builtin id)) (ha : RA X (e :: es) γ o ds o1) (h : CaD X.K r o1 ds d)
    (hn : x ≠ "__name__" := by decide) (hdb : (x == ("__debug__" : Str)) = false := by decide) (he : starEach (e :: es) X.env = (false, eval e X.env) :: starEach es X.env := by rfl) (hpl : (backTo pos (starEach es X.env)).any (·.1) = false := by rfl) :
    RE X (.Call (.Name x p) (e :: es) [] pos) γ o d o1 :=
  ⟨PE.imp (pe_callB hc hg hm hv ha.p hn hdb he hpl) fun σ H Q ⟨Hb, F, w, s, q⟩ => ⟨Hb, F, w, s, fun vs Hb1 H1 e1 w1 n1 => h Hb1 F H1 vs Q w1 n1 fun v Hb3 H3 e3 w3 n3 => q v Hb3 H3 (e1.trans e3) w3 n3⟩⟩
theorem re_callTy {x : Str} {id : String} {r : List V → Hp → VK → Prop} {p : Pos} (hc : CallR X (.type id) r) (hg : Gl X x) (hm : X.mg x = none) (hv : bootBuiltins x = some (.type id)) (ha : RA X (e :: es) γ o ds o1) (h : CaD X.K r o1 ds d)
    (hn : x ≠ "__name__" := by decide) (hdb : (x == ("__debug__" : Str)) = false := by decide) (he : starEach (e :: es) X.env = (false, eval e X.env) :: starEach es X.env := by rfl) (hpl : (backTo pos (starEach es X.env)).any (·.1) = false := by rfl) :
    RE X (.Call (.Name x p) (e :: es) [] pos) γ o d o1 :=
  ⟨PE.imp (pe_callTy hc hg hm hv ha.p hn hdb he hpl) fun σ H Q ⟨Hb, F, w, s, q⟩ => ⟨Hb, F, w, s, fun vs Hb1 H1 e1 w1 n1 => h Hb1 F H1 vs Q w1 n1 fun v Hb3 H3 e3 w3 n3 => q v Hb3 H3 (e1.trans e3) w3 n3⟩⟩
end

/-! ### one's own defs -/
/-- a promise in data: R says what the arguments give; o, o' what is the caller's own and is handed on -/
def spD (K : PySem.W.Frag) (R : List D → Own → D → Own → Prop) : Sp := fun vs H Q _ => ∃ Hb F ds o d o', Wd K Hb F o H ∧ DenL K Hb vs ds ∧ R ds o d o' ∧ ∀ v Hb' H', Ex Hb Hb' → Wd K Hb' F o' H' → Den K Hb' v d → Q v H'
/-- the def x stands in the module and keeps the promise R within k levels -/
structure Has (P : Program) (w : World) (K : PySem.W.Frag) (mg : Str → Option Value) (base : Heap) (x : Str) (k : Nat) (n : Nat) (R : List D → Own → D → Own → Prop) : Prop where
  ex : ∃ (f : Addr) (fd : FuncData) (ps : List Str), ps.length = n ∧ FnOk P w K mg base CX0 k f fd ps (spD K R) ∧ mg x = some (.ref f) ∧ PySem.W.keepIn K (.ref f) = true ∧ Binds K fd ps []
theorem Has.imp {P : Program} {w : World} {K : PySem.W.Frag} {mg : Str → Option Value} {base : Heap} {x : Str} {k k' n : Nat} {R R' : List D → Own → D → Own → Prop} (h : Has P w K mg base x k n R) (hk : k ≤ k') (hi : ∀ ds o d o', R' ds o d o' → R ds o d o') : Has P w K mg base x k' n R' := by
  obtain ⟨f, fd, ps, l, F, r⟩ := h.ex
  refine ⟨f, fd, ps, l, (F.mono hk).imp fun vs H Q E q => ?_, r⟩
  obtain ⟨Hb, F, ds, o, d, o', h1, h2, h3, h4⟩ := q
  exact ⟨Hb, F, ds, o, d, o', h1, h2, hi _ _ _ _ h3, h4⟩
theorem re_call {X : Cx} {γ : Sto} {o o1 o2 : Own} {e : Expr} {es : List Expr} {d : D} {ds : List D} {pos p : Pos} {x : Str} {k n : Nat} {R : List D → Own → D → Own → Prop} (h : Has X.prog X.w X.K X.mg X.base x k n R) (hr : Room k X.A) (ha : RA X (e :: es) γ o ds o1) (hR : R ds o1 d o2)
    (hg : Gl X x) (hdb : (x == ("__debug__" : Str)) = false := by decide) (he : starEach (e :: es) X.env = (false, eval e X.env) :: starEach es X.env := by rfl) (hpl : (backTo pos (starEach es X.env)).any (·.1) = false := by rfl) :
    RE X (.Call (.Name x p) (e :: es) [] pos) γ o d o2 := by
  obtain ⟨f, fd, ps, l, F, hm, hk, hb⟩ := h.ex
  exact ⟨PE.imp (pe_call F hr hg hm hk hb .nil pass0 ha.p hdb he hpl) fun σ H Q ⟨Hb, F, w, s, q⟩ => ⟨Hb, F, w, s, fun vs Hb1 H1 e1 w1 n1 =>
    ⟨Hb1, F, ds, o1, d, o2, w1, by rw [List.append_nil]; exact n1, hR, fun v Hb3 H3 e3 w3 n3 => q v Hb3 H3 (e1.trans e3) w3 n3⟩⟩⟩
end J
end

section
set_option Elab.async false
set_option linter.all false
set_option maxRecDepth 100000
namespace J
open PySem PySem.Spec PyProof.Rows L2

/-! ### slots forgotten -/
theorem wipe_len (σ : L2.St) : ∀ vs : List Nat, (L2.wipe σ vs).length = σ.length
  | [] => rfl
  | v :: vs => by show ((L2.wipe σ vs).set v none).length = _; rw [List.length_set, wipe_len σ vs]
theorem wipe_at (σ : L2.St) (j : Nat) : ∀ vs : List Nat, (L2.wipe σ vs)[j]? = if j ∈ vs then (if j < σ.length then some none else none) else σ[j]?
  | [] => by simp [L2.wipe]
  | v :: vs => by
    show ((L2.wipe σ vs).set v none)[j]? = _
    rw [List.getElem?_set]
    by_cases c : v = j
    · subst c
      rw [if_pos rfl, wipe_len]
      simp
    · rw [if_neg c, wipe_at σ j vs]
      have e : (j ∈ v :: vs) = (j ∈ vs) := by
        rw [List.mem_cons]
        exact propext ⟨fun h => h.resolve_left fun z => c z.symm, .inr⟩
      simp only [e]
theorem wipe_set {σ : L2.St} {i : Nat} {x : Option V} {vs : List Nat} (h : i ∈ vs) : L2.wipe (σ.set i x) vs = L2.wipe σ vs := by
  apply List.ext_getElem?
  intro j
  rw [wipe_at, wipe_at, List.length_set]
  by_cases c : j ∈ vs
  · rw [if_pos c, if_pos c]
  · rw [if_neg c, if_neg c]
    exact List.getElem?_set_ne fun e => by subst e; exact c h
theorem wipe_wipe {σ : L2.St} {vs : List Nat} : L2.wipe (L2.wipe σ vs) vs = L2.wipe σ vs := by
  apply List.ext_getElem?
  intro j
  rw [wipe_at, wipe_at, wipe_len]
  by_cases c : j ∈ vs
  · rw [if_pos c, if_pos c]
  · rw [if_neg c, if_neg c]

/-! ### targets -/
def tG (K : PySem.W.Frag) (d : D) (γ γ' : Sto) (ix : List Nat) : TG := fun v σ H Q =>
  ∃ Hb, Ex Hb H ∧ Stt K Hb γ σ ∧ Den K Hb v d ∧ ∀ σ', Stt K Hb γ' σ' → (∀ vs : List Nat, (∀ i ∈ ix, i ∈ vs) → L2.wipe σ' vs = L2.wipe σ vs) → Q σ' H
def tGs (K : PySem.W.Frag) (ds : List D) (γ γ' : Sto) (ix : List Nat) : TGs := fun v σ H Q =>
  ∃ Hb, Ex Hb H ∧ Stt K Hb γ σ ∧ DenL K Hb v ds ∧ ∀ σ', Stt K Hb γ' σ' → (∀ vs : List Nat, (∀ i ∈ ix, i ∈ vs) → L2.wipe σ' vs = L2.wipe σ vs) → Q σ' H
structure RG (X : Cx) (tg : Expr) (d : D) (γ γ' : Sto) (ix : List Nat) : Prop where
  p : PG X tg (tG X.K d γ γ' ix)
structure RGs (X : Cx) (tgs : List Expr) (ds : List D) (γ γ' : Sto) (ix : List Nat) : Prop where
  p : PGs X tgs (tGs X.K ds γ γ' ix)
theorem PG.imp {X : Cx} {e : Expr} {t t' : TG} (h : PG X e t) (i : ∀ v σ H Q, t' v σ H Q → t v σ H Q) : PG X e t' := ⟨fun pins s σ H v u Q I r q => h.run pins s σ H v u Q I r (i v σ H Q q)⟩
theorem PGs.imp {X : Cx} {e : List Expr} {t t' : TGs} (h : PGs X e t) (i : ∀ v σ H Q, t' v σ H Q → t v σ H Q) : PGs X e t' := ⟨fun pins s σ H v u Q I r q => h.run pins s σ H v u Q I r (i v σ H Q q)⟩
theorem rg_name {X : Cx} {γ : Sto} {d : D} (i : Nat) {x : Str} {pos : Pos} (hN : X.N.Nodup) (hi : X.N[i]? = some x) (hx : Loc X.env.scope x) (hf : X.fn x = true ∨ X.env.scope.names.lookup x = some .local := by first | exact .inl rfl | exact .inr rfl | assumption) :
    RG X (.Name x pos) d γ (γ.set i (some d)) [i] :=
  ⟨PG.imp (pg_name hN hi hx hf) fun v σ H Q ⟨Hb, e, s, n, q⟩ => q _ (s.set i n) fun vs hv => wipe_set (hv i (by simp))⟩
theorem rgs_nil {X : Cx} {γ : Sto} : RGs X [] [] γ γ [] := ⟨PGs.imp pgs_nil fun v σ H Q ⟨Hb, e, s, n, q⟩ => by
  cases n
  exact ⟨rfl, q σ s fun _ _ => rfl⟩⟩
theorem rgs_cons {X : Cx} {γ γ1 γ2 : Sto} {e : Expr} {es : List Expr} {d : D} {ds : List D} {ix jx : List Nat} (h1 : RG X e d γ γ1 ix) (h2 : RGs X es ds γ1 γ2 jx)
    (hs : (assignEach (e :: es) X.env).map (·.2) = assign e X.env :: (assignEach es X.env).map (·.2) := by rfl) : RGs X (e :: es) (d :: ds) γ γ2 (ix ++ jx) :=
  ⟨PGs.imp (pgs_cons h1.p h2.p hs) fun v σ H Q ⟨Hb, e, s, n, q⟩ => by
    cases n with
    | cons n1 n2 =>
      refine ⟨_, _, rfl, Hb, e, s, n1, fun σ1 s1 w1 => ⟨Hb, e, s1, n2, fun σ2 s2 w2 => q σ2 s2 fun vs hv => ?_⟩⟩
      rw [w2 vs fun i hi => hv i (List.mem_append_right _ hi), w1 vs fun i hi => hv i (List.mem_append_left _ hi)]⟩
theorem rg_tup {X : Cx} {γ γ' : Sto} {es : List Expr} {ds : List D} {ix : List Nat} {k : Nat} {pos : Pos} (hc : X.calm = true) (h : RGs X es ds γ γ' ix)
    (hn : (assignEach es X.env).length = ds.length := by rfl) (hst : (assignEach es X.env).findIdx? (·.1) = none := by rfl) : RG X (.Tuple es k pos) (.tup ds) γ γ' ix :=
  ⟨PG.imp (pg_tup hc h.p hn hst) fun v σ H Q ⟨Hb, e, s, n, q⟩ => by
    cases n with
    | tup h1 l => exact ⟨_, _, rfl, SqT.of (e _ _ h1), l.len, Hb, e, s, l, q⟩⟩

/-! ### what is walked -/
structure GoodIt (K : PySem.W.Frag) (Hb : Hp) (J : It) (xs : List D) (N : Own → Prop) : Prop where
  go : ∀ (i : Nat) (Hb' H : Hp) (F' : Hp) (o : Own) (h : i < xs.length), Ex Hb Hb' → N o → Wd K Hb' F' o H → J.go i H ∧ ∀ x H', J.yld i H x H' → ∃ Hb3, Ex Hb' Hb3 ∧ Wd K Hb3 F' o H' ∧ Den K Hb3 x xs[i]
  stop : ∀ (Hb' H : Hp) (F' : Hp) (o : Own), Ex Hb Hb' → N o → Wd K Hb' F' o H → J.stop xs.length H
/-- N: what one's own must be while it is walked -/
def tIN (K : PySem.W.Frag) (γ : Sto) (o : Own) (xs : List D) (o' : Own) (N : Own → Prop) : TI := fun σ H R =>
  ∃ Hb F, Wd K Hb F o H ∧ Stt K Hb γ σ ∧ ∀ J Hb' H', Ex Hb Hb' → Wd K Hb' F o' H' → GoodIt K Hb' J xs N → R J H'
abbrev anyO : Own → Prop := fun _ => True
abbrev tI (K : PySem.W.Frag) (γ : Sto) (o : Own) (xs : List D) (o' : Own) : TI := tIN K γ o xs o' anyO
structure RI (X : Cx) (tg iter : Expr) (γ : Sto) (o : Own) (xs : List D) (o' : Own) (N : Own → Prop := anyO) : Prop where
  p : PI X tg iter (tIN X.K γ o xs o' N)
theorem PI.imp {X : Cx} {tg e : Expr} {t t' : TI} (h : PI X tg e t) (i : ∀ σ H Q, t' σ H Q → t σ H Q) : PI X tg e t' := ⟨fun pins s σ H Q I q => h.run pins s σ H Q I (i σ H Q q)⟩
section
variable {X : Cx} {γ : Sto} {o o1 o2 : Own} {tg e e2 : Expr} {es : List Expr} {xs ys : List D} {pos p : Pos}

theorem ri_list (h : RE X e γ o (.lst xs) o1) : RI X tg e γ o xs o1 :=
  ⟨PI.imp (pi_list h.p) fun σ H R ⟨Hb, F, w, s, q⟩ => ⟨Hb, F, w, s, fun v Hb1 H1 e1 w1 n1 => by
    cases n1 with
    | lst hs l =>
      have hs : SqL X.K Hb1 _ _ := SqL.of hs
      refine ⟨_, rfl, ⟨_, w1.b.sql hs⟩, q _ Hb1 H1 e1 w1 ⟨fun i Hb2 H2 F' o' hi e2 _ w2 => ?_, fun Hb2 H2 F' o' e2 _ w2 => ⟨_, (e2.trans w2.b).sql hs, Nat.le_of_eq l.len⟩⟩⟩
      obtain ⟨v, hv, nv⟩ := l.get (List.getElem?_eq_getElem hi)
      refine ⟨⟨_, v, (e2.trans w2.b).sql hs, hv⟩, fun x H3 y => ?_⟩
      obtain ⟨rfl, y⟩ := y
      have := (y _ ((e2.trans w2.b).sql hs)).symm.trans hv
      cases this
      exact ⟨Hb2, Ex.refl _, w2, nv.mono e2⟩⟩⟩
theorem ri_sl (h : RE X e γ o (.sl xs) o1) : RI X tg e γ o xs o1 :=
  ⟨PI.imp (pi_list h.p) fun σ H R ⟨Hb, F, w, s, q⟩ => ⟨Hb, F, w, s, fun v Hb1 H1 e1 w1 n1 => by
    cases n1 with
    | sl hs l =>
      refine ⟨_, rfl, ⟨_, w1.b.sql hs⟩, q _ Hb1 H1 e1 w1 ⟨fun i Hb2 H2 F' o' hi e2 _ w2 => ?_, fun Hb2 H2 F' o' e2 _ w2 => ⟨_, (e2.trans w2.b).sql hs, Nat.le_of_eq l.len⟩⟩⟩
      obtain ⟨v, hv, nv⟩ := l.get (List.getElem?_eq_getElem hi)
      refine ⟨⟨_, v, (e2.trans w2.b).sql hs, hv⟩, fun x H3 y => ?_⟩
      obtain ⟨rfl, y⟩ := y
      have := (y _ ((e2.trans w2.b).sql hs)).symm.trans hv
      cases this
      exact ⟨Hb2, Ex.refl _, w2, nv.mono e2⟩⟩⟩
theorem ri_tup (h : RE X e γ o (.tup xs) o1) : RI X tg e γ o xs o1 :=
  ⟨PI.imp (pi_tup h.p) fun σ H R ⟨Hb, F, w, s, q⟩ => ⟨Hb, F, w, s, fun v Hb1 H1 e1 w1 n1 => by
    cases n1 with
    | tup hs l =>
      have hs : SqT X.K Hb1 _ _ := SqT.of hs
      refine ⟨_, rfl, ⟨_, w1.b.sqt hs⟩, q _ Hb1 H1 e1 w1 ⟨fun i Hb2 H2 F' o' hi e2 _ w2 => ?_, fun Hb2 H2 F' o' e2 _ w2 => ⟨_, (e2.trans w2.b).sqt hs, Nat.le_of_eq l.len⟩⟩⟩
      obtain ⟨v, hv, nv⟩ := l.get (List.getElem?_eq_getElem hi)
      refine ⟨⟨_, v, (e2.trans w2.b).sqt hs, hv⟩, fun x H3 y => ?_⟩
      obtain ⟨rfl, y⟩ := y
      have := (y _ ((e2.trans w2.b).sqt hs)).symm.trans hv
      cases this
      exact ⟨Hb2, Ex.refl _, w2, nv.mono e2⟩⟩⟩
/-- lo, lo + 1, .. as data -/
def rangeD (lo : Int) (n : Nat) : List D := (List.range n).map fun (i : Nat) => D.int (lo + (i : Int))
theorem rangeD_len (lo : Int) (n : Nat) : (rangeD lo n).length = n := by unfold rangeD; rw [List.length_map, List.length_range]
theorem rangeD_get {lo : Int} {n i : Nat} (h : i < (rangeD lo n).length) : (rangeD lo n)[i] = .int (lo + (i : Int)) := by
  have e : (rangeD lo n)[i]? = some (.int (lo + (i : Int))) := by
    rw [rangeD_len] at h
    unfold rangeD
    rw [List.getElem?_map, List.getElem?_range h]; rfl
  exact (List.getElem?_eq_some_iff.mp e).2
theorem good_range {K : PySem.W.Frag} {Hb : Hp} {N : Own → Prop} (lo : Int) (n : Nat) : GoodIt K Hb (Itr lo n) (rangeD lo n) N :=
  ⟨fun i Hb2 H2 F' o' hi e2 _ w2 => ⟨by rw [rangeD_len] at hi; exact hi, fun x H3 ⟨y1, y2⟩ => by
    subst y1 y2
    rw [rangeD_get]
    exact ⟨Hb2, Ex.refl _, w2, .int _⟩⟩, fun Hb2 H2 F' o' e2 _ w2 => by rw [rangeD_len]; exact Nat.le_refl _⟩
theorem ri_range1 {a : Expr} {n : Int} (hg : Gl X "range") (hm : X.mg "range" = none) (ha : RA X [a] γ o [.int n] o1) (h : -(2 ^ 62) ≤ n ∧ n < 2 ^ 62) (hs : starEach [a] X.env = [(false, eval a X.env)] := by rfl) :
    RI X tg (.Call (.Name "range" p) [a] [] pos) γ o (rangeD 0 n.toNat) o1 :=
  ⟨PI.imp (pi_range1 hg hm ha.p hs) fun σ H R ⟨Hb, F, w, s, q⟩ => ⟨Hb, F, w, s, fun v Hb1 H1 e1 w1 n1 => by
    cases n1 with
    | cons a l =>
      cases a; cases l
      exact ⟨n, rfl, h.1, h.2, q _ Hb1 H1 e1 w1 (good_range 0 n.toNat)⟩⟩⟩
theorem ri_range2 {a b : Expr} {n m : Int} (hg : Gl X "range") (hm : X.mg "range" = none) (ha : RA X [a, b] γ o [.int n, .int m] o1) (h : -(2 ^ 62) ≤ n ∧ n < 2 ^ 62 ∧ -(2 ^ 62) ≤ m ∧ m < 2 ^ 62)
    (hs : starEach [a, b] X.env = [(false, eval a X.env), (false, eval b X.env)] := by rfl) (hs2 : starEach [b] X.env = [(false, eval b X.env)] := by rfl) :
    RI X tg (.Call (.Name "range" p) [a, b] [] pos) γ o (rangeD n (m - n).toNat) o1 :=
  ⟨PI.imp (pi_range2 hg hm ha.p hs hs2) fun σ H R ⟨Hb, F, w, s, q⟩ => ⟨Hb, F, w, s, fun v Hb1 H1 e1 w1 n1 => by
    cases n1 with
    | cons a l =>
      cases a
      cases l with
      | cons a l =>
        cases a; cases l
        exact ⟨n, m, rfl, h, q _ Hb1 H1 e1 w1 (good_range n (m - n).toNat)⟩⟩⟩
end

/-! ### a raw list that grows (a comprehension's) -/
section
variable {K : PySem.W.Frag} {Hb F H : Hp} {o : Own} {D₀ : Addr}
theorem Wd.alloc (w : Wd K Hb F o H) {u : HO} (h : H D₀ = none) : Wd K Hb (upd F D₀ u) o (upd H D₀ u) := by
  have hb := w.b.none h
  have hf := w.f.none h
  refine ⟨w.b.trans (Ex.new h), fun a x e => ?_, fun a => ?_, fun q hq => ?_, w.nd⟩
  · by_cases c : a = D₀
    · subst c; rw [upd_same] at e ⊢; exact e
    · rw [upd_ne c] at e ⊢; exact w.f a x e
  · by_cases c : a = D₀
    · subst c; exact .inl hb
    · rw [upd_ne c]; exact w.dj a
  · obtain ⟨h1, h2, h3⟩ := w.own q hq
    have c : q.1 ≠ D₀ := by
      obtain ⟨u, hu⟩ := h3.some
      exact ne_of_none hu h
    exact ⟨h1, by rw [upd_ne c]; exact h2, h3.mono (Ex.refl _) fun u hu => by rw [upd_ne c]; exact hu⟩
theorem Wd.grow {vs vs' : List V} (w : Wd K Hb (upd F D₀ (.lst vs)) o H) : Wd K Hb (upd F D₀ (.lst vs')) o (upd H D₀ (.lst vs')) := by
  have hb : Hb D₀ = none := (w.dj D₀).resolve_right (by rw [upd_same]; exact fun e => e.elim (fun e => nomatch e) fun ⟨_, e⟩ => nomatch e)
  refine ⟨fun a x e => ?_, fun a x e => ?_, fun a => ?_, fun q hq => ?_, w.nd⟩
  · rw [upd_ne (ne_of_none e hb)]; exact w.b a x e
  · by_cases c : a = D₀
    · subst c; rw [upd_same] at e ⊢; exact e
    · rw [upd_ne c] at e ⊢; exact w.f a x (by rw [upd_ne c]; exact e)
  · by_cases c : a = D₀
    · subst c; exact .inl hb
    · rw [upd_ne c]
      rcases w.dj a with h | h
      · exact .inl h
      · rw [upd_ne c] at h; exact .inr h
  · obtain ⟨h1, h2, h3⟩ := w.own q hq
    have c : q.1 ≠ D₀ := fun c => by rw [c, upd_same] at h2; cases h2
    exact ⟨h1, by rw [upd_ne c] at h2 ⊢; exact h2, h3.mono (Ex.refl _) fun u hu => by rw [upd_ne c]; exact hu⟩
theorem Wd.done {vs : List V} {ds : List D} (w : Wd K Hb (upd F D₀ (.lst vs)) o H) (hf : F D₀ = none) (l : DenL K Hb vs ds) : ∃ Hb', Ex Hb Hb' ∧ Wd K Hb' F o H ∧ Den K Hb' (.ref D₀) (.lst ds) := by
  have hb : Hb D₀ = none := (w.dj D₀).resolve_right (by rw [upd_same]; exact fun e => e.elim (fun e => nomatch e) fun ⟨_, e⟩ => nomatch e)
  have ex : Ex Hb (upd Hb D₀ (.lst vs)) := Ex.new hb
  have hH : H D₀ = some (.lst vs) := w.f _ _ upd_same
  refine ⟨_, ex, ⟨fun a x e => ?_, (Ex.new hf).trans w.f, fun a => ?_, fun q hq => ?_, w.nd⟩, .lst upd_same (l.mono ex)⟩
  · by_cases c : a = D₀
    · subst c; rw [upd_same] at e; cases e; exact hH
    · rw [upd_ne c] at e; exact w.b a x e
  · by_cases c : a = D₀
    · subst c; exact .inr (.inl hf)
    · rw [upd_ne c]
      rcases w.dj a with h | h
      · exact .inl h
      · rw [upd_ne c] at h; exact .inr h
  · obtain ⟨h1, h2, h3⟩ := w.own q hq
    have c : q.1 ≠ D₀ := fun c => by rw [c, upd_same] at h2; cases h2
    exact ⟨by rw [upd_ne c]; exact h1, by rw [upd_ne c] at h2; exact h2, h3.mono ex fun u hu => hu⟩
end

/-! ### comprehensions -/
structure RTs (X : Cx) (ifs : List Expr) (γ : Sto) (o : Own) (b : Bool) (o' : Own) : Prop where
  p : PTs X ifs (tT X.K γ o b o')
theorem PTs.imp {X : Cx} {e : List Expr} {t t' : TT} (h : PTs X e t) (i : ∀ σ H Q, t' σ H Q → t σ H Q) : PTs X e t' := ⟨fun pins s σ H Q I q => h.run pins s σ H Q I (i σ H Q q)⟩
theorem rts_nil {X : Cx} {γ : Sto} {o : Own} : RTs X [] γ o true o := ⟨PTs.imp pts_nil fun σ H Q ⟨Hb, F, w, s, q⟩ => q Hb H (Ex.refl _) w⟩
theorem rts_one {X : Cx} {γ : Sto} {o o1 : Own} {b : Bool} {c : Expr} (h : RT X c γ o b o1) : RTs X [c] γ o b o1 := ⟨pts_one h.p⟩


/-- a comprehension, as a value and as what a name is set to -/
structure RLc (X : Cx) (elt : Expr) (gens : List Comprehension) (scope : Scope) (γ : Sto) (o : Own) (d : D) (o' : Own) : Prop where
  e : ∀ pos, PE X (.ListComp elt gens scope pos) (tE X.K γ o d o')
  s : ∀ (i : Nat) (y : Str) (py pos spos : Pos), X.N[i]? = some y → X.env.scope.names.lookup y = some .local → swapsWith (.ListComp elt gens scope pos) (some (.Name y py)) spos.line X.env = pure true →
    PS X (.Assign [.Name y py] (.ListComp elt gens scope pos) spos) (tAsg (tE X.K γ o d o') (gName i))
theorem re_l {X : Cx} {elt : Expr} {gens : List Comprehension} {scope : Scope} {γ : Sto} {o o' : Own} {d : D} {pos : Pos} (h : RLc X elt gens scope γ o d o') : RE X (.ListComp elt gens scope pos) γ o d o' := ⟨h.e pos⟩

/-- what the turns give -/
def collect {α : Type} (b : Nat → α → Bool) (f : Nat → α → D) : Nat → List α → List D
  | _, [] => []
  | i, a :: r => if b i a = true then f i a :: collect b f (i + 1) r else collect b f (i + 1) r
theorem collect_snoc {α : Type} (b : Nat → α → Bool) (f : Nat → α → D) (a : α) : ∀ (L : List α) (i : Nat), collect b f i (L ++ [a]) = collect b f i L ++ (if b (i + L.length) a = true then [f (i + L.length) a] else [])
  | [], i => by simp only [List.nil_append, collect, List.length_nil, Nat.add_zero]
  | x :: r, i => by
    have ih := collect_snoc b f a r (i + 1)
    have e : i + 1 + r.length = i + (x :: r).length := by rw [List.length_cons]; omega
    rw [e] at ih
    show (if b i x = true then f i x :: collect b f (i + 1) (r ++ [a]) else collect b f (i + 1) (r ++ [a])) = _
    rw [ih]
    show _ = (if b i x = true then f i x :: collect b f (i + 1) r else collect b f (i + 1) r) ++ _
    split <;> rfl
theorem collect_take {α : Type} (b : Nat → α → Bool) (f : Nat → α → D) {L : List α} {i : Nat} {a : α} (h : L[i]? = some a) :
    collect b f 0 (L.take (i + 1)) = collect b f 0 (L.take i) ++ (if b i a = true then [f i a] else []) := by
  obtain ⟨hi, e⟩ := List.getElem?_eq_some_iff.mp h
  rw [List.take_succ, h]
  show collect b f 0 (L.take i ++ [a]) = _
  rw [collect_snoc, List.length_take, Nat.min_eq_left (Nat.le_of_lt hi), Nat.zero_add]
theorem collect_pure {α : Type} (b : α → Bool) (f : α → D) : ∀ (L : List α) (i : Nat), collect (fun _ => b) (fun _ => f) i L = (L.filter b).map f
  | [], _ => rfl
  | a :: r, i => by
    show (if b a = true then f a :: collect _ _ (i + 1) r else collect _ _ (i + 1) r) = _
    rw [collect_pure b f r (i + 1)]
    by_cases c : b a = true
    · rw [if_pos c, List.filter_cons_of_pos c]; rfl
    · rw [if_neg c, List.filter_cons_of_neg c]
theorem collect_le {α : Type} (b : Nat → α → Bool) (f : Nat → α → D) : ∀ (L : List α) (i : Nat), (collect b f i L).length ≤ L.length
  | [], _ => Nat.le_refl _
  | a :: r, i => by
    have ih := collect_le b f r (i + 1)
    show (if b i a = true then f i a :: collect b f (i + 1) r else collect b f (i + 1) r).length ≤ _
    split
    · rw [List.length_cons, List.length_cons]; omega
    · rw [List.length_cons]; omega

/-- the readings of a block's parts, whatever frame it has -/
def gC {α : Type} (K : PySem.W.Frag) (L : List α) (g : α → D) (γw : Sto) (γ1 : Nat → α → Sto) (ix : List Nat) : TG := fun v σ H Q => ∃ (i : Nat) (a : α), L[i]? = some a ∧ tG K (g a) γw (γ1 i a) ix v σ H Q
def ttC {α : Type} (K : PySem.W.Frag) (L : List α) (γ1 : Nat → α → Sto) (os : Nat → Own) (b : Nat → α → Bool) (om : Nat → α → Own) : TT := fun σ H Q => ∃ (i : Nat) (a : α), L[i]? = some a ∧ tT K (γ1 i a) (os i) (b i a) (om i a) σ H Q
def teC {α : Type} (K : PySem.W.Frag) (L : List α) (γ1 : Nat → α → Sto) (os : Nat → Own) (b : Nat → α → Bool) (om : Nat → α → Own) (f : Nat → α → D) : TE := fun σ H Q => ∃ (i : Nat) (a : α), L[i]? = some a ∧ b i a = true ∧ tE K (γ1 i a) (om i a) (f i a) (os (i + 1)) σ H Q
/-- one clause's block, at every frame -/
structure Blk1 {α : Type} (X : Cx) (scope : Scope) (tg : Expr) (ifs : List Expr) (elt : Expr) (L : List α) (g : α → D) (γw : Sto) (γ1 : Nat → α → Sto) (ix : List Nat) (os : Nat → Own) (b : Nat → α → Bool) (om : Nat → α → Own) (f : Nat → α → D) : Prop where
  t : ∀ (s : Shared) (H : Hp) (C : Addr) (cl : List (Str × Addr)) (fp : List Addr) (i : Nat) (a : α), L[i]? = some a →
    RG (X.blk s H scope (compEnvC scope cl C X.env) fp) tg (g a) γw (γ1 i a) ix ∧ RTs (X.blk s H scope (compEnvC scope cl C X.env) fp) ifs (γ1 i a) (os i) (b i a) (om i a) ∧
    (b i a = true → RE (X.blk s H scope (compEnvC scope cl C X.env) fp) elt (γ1 i a) (om i a) (f i a) (os (i + 1)))
  n : ∀ (i : Nat) (a : α), L[i]? = some a → b i a = false → om i a = os (i + 1)
theorem lcI_read {N : Own → Prop} {α : Type} {X : Cx} {γ : Sto} {o : Own} {elt tg iter : Expr} {ifs : List Expr} {scope : Scope} {own : List (Str × Nat)} (L : List α) (g : α → D) (γ1 : Nat → α → Sto) (ix : List Nat) (os : Nat → Own) (b : Nat → α → Bool) (om : Nat → α → Own) (f : Nat → α → D)
    (hc : X.calm = true) (hN : X.N.Nodup) (hi : RI X tg iter γ o (L.map g) (os 0) N) (ok : BlkOk X.N X.env.scope scope own) (hb : Blk1 X scope tg ifs elt L g (wipeG γ (own.map (·.2))) γ1 ix os b om f)
    (hx : ∀ i ∈ ix, i ∈ own.map (·.2)) (hl : L.length ≤ 100000) (hNo : ∀ i, N (os i)) :
    ∃ wi g tt te, (∀ (W : TE → Prop), (PI X tg iter wi → (∀ (s : Shared) (H : Hp) (C : Addr) (cl : List (Str × Addr)) (fp : List Addr), PG (X.blk s H scope (compEnvC scope cl C X.env) fp) tg g) → (∀ (s : Shared) (H : Hp) (C : Addr) (cl : List (Str × Addr)) (fp : List Addr), PTs (X.blk s H scope (compEnvC scope cl C X.env) fp) ifs tt) →
      (∀ (s : Shared) (H : Hp) (C : Addr) (cl : List (Str × Addr)) (fp : List Addr), PE (X.blk s H scope (compEnvC scope cl C X.env) fp) elt te) → W (tLc wi g tt te (own.map (·.2)))) → W (tLc wi g tt te (own.map (·.2)))) ∧
      ∀ σ H Q, tE X.K γ o (.lst (collect b f 0 L)) (os L.length) σ H Q → tLc wi g tt te (own.map (·.2)) σ H Q := by
  have hg : ∀ (s : Shared) (H : Hp) (C : Addr) (cl : List (Str × Addr)) (fp : List Addr), PG (X.blk s H scope (compEnvC scope cl C X.env) fp) tg (gC X.K L g (wipeG γ (own.map (·.2))) γ1 ix) := fun s H C cl fp =>
    ⟨fun pins s1 σ H1 v u Q I r ⟨i, a, ha, q⟩ => (hb.t s H C cl fp i a ha).1.p.run pins s1 σ H1 v u Q I r q⟩
  have ht : ∀ (s : Shared) (H : Hp) (C : Addr) (cl : List (Str × Addr)) (fp : List Addr), PTs (X.blk s H scope (compEnvC scope cl C X.env) fp) ifs (ttC X.K L γ1 os b om) := fun s H C cl fp =>
    ⟨fun pins s1 σ H1 Q I ⟨i, a, ha, q⟩ => (hb.t s H C cl fp i a ha).2.1.p.run pins s1 σ H1 Q I q⟩
  have he : ∀ (s : Shared) (H : Hp) (C : Addr) (cl : List (Str × Addr)) (fp : List Addr), PE (X.blk s H scope (compEnvC scope cl C X.env) fp) elt (teC X.K L γ1 os b om f) := fun s H C cl fp =>
    ⟨fun pins s1 σ H1 Q I ⟨i, a, ha, hba, q⟩ => ((hb.t s H C cl fp i a ha).2.2 hba).p.run pins s1 σ H1 Q I q⟩
  have hom := hb.n
  refine ⟨_, _, _, _, fun W hW => hW hi.p hg ht he, fun σ H Q ⟨Hb, F, w, s, q⟩ => ⟨Hb, F, w, s, fun J Hb1 H1 e1 w1 good D₀ hD => ?_⟩⟩
  refine ⟨fun i m H' => m = L.length - i ∧ i ≤ L.length ∧ ∃ (Hb' : Hp) (acc : List V), Ex Hb1 Hb' ∧ Wd X.K Hb' (upd F D₀ (.lst acc)) (os i) H' ∧ DenL X.K Hb' acc (collect b f 0 (L.take i)), ⟨L.length, by simp, Nat.zero_le _, Hb1, [], Ex.refl _, w1.alloc hD, .nil⟩, ?_⟩
  have hF : F D₀ = none := w1.f.none hD
  rintro i m H' ⟨rfl, hi', Hb', acc, e', w', l'⟩
  by_cases c : i < L.length
  · have hla : L[i]? = some L[i] := List.getElem?_eq_getElem c
    generalize L[i] = a at hla
    have c' : i < (L.map g).length := by rw [List.length_map]; exact c
    have eg : (L.map g)[i] = g a := by
      have z : (L.map g)[i]? = some (g a) := by rw [List.getElem?_map, hla]; rfl
      exact (List.getElem?_eq_some_iff.mp z).2
    obtain ⟨g1, g2⟩ := good.go i Hb' H' _ _ c' e' (hNo i) w'
    rw [eg] at g2
    refine .inr ⟨g1, fun H2 => ∃ (Hb2 : Hp) (acc : List V), Ex Hb1 Hb2 ∧ Wd X.K Hb2 (upd F D₀ (.lst acc)) (os (i + 1)) H2 ∧ DenL X.K Hb2 acc (collect b f 0 (L.take (i + 1))), fun H2 p => ⟨L.length - (i + 1), by omega, rfl, c, p⟩, fun x H2 y => ?_⟩
    obtain ⟨Hb2, e2, w2, n2⟩ := g2 x H2 y
    have e12 := e'.trans e2
    refine ⟨i, a, hla, Hb2, w2.b, (s.mono (e1.trans e12)).wipe _, n2, fun σ' s' hw => ⟨(hw _ hx).trans wipe_wipe, ?_⟩⟩
    refine ⟨i, a, hla, Hb2, _, w2, s', fun Hb3 H3 e3 w3 => ?_⟩
    have l3 := l'.mono (e2.trans e3)
    have ct := collect_take b f hla
    cases hbi : b i a with
    | true =>
      show teC X.K L γ1 os b om f σ' H3 _
      refine ⟨i, a, hla, hbi, Hb3, _, w3, s'.mono e3, fun z Hb4 H4 e4 w4 n4 => ⟨acc, w4.f _ _ upd_same, ?_, Hb4, acc ++ [z], e12.trans (e3.trans e4), w4.grow, ?_⟩⟩
      · have z1 := l3.len
        have z2 := collect_le b f (L.take i) 0
        have z3 := List.length_take_le i L
        have z4 : 100000 < sizeLine := by decide
        omega
      · rw [ct, hbi, if_pos rfl]
        exact (l3.mono e4).append (.cons n4 .nil)
    | false =>
      show ∃ (Hb2 : Hp) (acc : List V), _
      refine ⟨Hb3, acc, e12.trans e3, by rw [← hom i a hla hbi]; exact w3, ?_⟩
      rw [ct, hbi, if_neg (by decide), List.append_nil]
      exact l3
  · have ei : i = L.length := by omega
    subst ei
    have st := good.stop Hb' H' _ _ e' (hNo _) w'
    rw [List.length_map] at st
    rw [List.take_length] at l'
    obtain ⟨Hb2, e2, w2, n2⟩ := w'.done hF l'
    exact .inl ⟨st, q _ Hb2 H' (e1.trans (e'.trans e2)) w2 n2⟩
theorem rl_lcI {N : Own → Prop} {α : Type} {X : Cx} {γ : Sto} {o : Own} {elt tg iter : Expr} {ifs : List Expr} {scope : Scope} {own : List (Str × Nat)} (L : List α) (g : α → D) (γ1 : Nat → α → Sto) (ix : List Nat) (os : Nat → Own) (b : Nat → α → Bool) (om : Nat → α → Own) (f : Nat → α → D)
    (hc : X.calm = true) (hN : X.N.Nodup) (hi : RI X tg iter γ o (L.map g) (os 0) N) (ok : BlkOk X.N X.env.scope scope own) (hb : Blk1 X scope tg ifs elt L g (wipeG γ (own.map (·.2))) γ1 ix os b om f)
    (hx : ∀ i ∈ ix, i ∈ own.map (·.2)) (hl : L.length ≤ 100000) (hs : ∀ x, foldedSetIterable iter X.env x = pure x := by intro _; rfl) (hNo : ∀ i, N (os i) := by intro _; trivial) :
    RLc X elt [⟨tg, iter, ifs, 0⟩] scope γ o (.lst (collect b f 0 L)) (os L.length) := by
  obtain ⟨wi, g', tt, te, h, q⟩ := lcI_read L g γ1 ix os b om f hc hN hi ok hb hx hl hNo
  exact ⟨fun pos => PE.imp (h (fun t => PE X (.ListComp elt [⟨tg, iter, ifs, 0⟩] scope pos) t) fun h1 h2 h3 h4 => pe_lc hc hN h1 ok h2 h3 h4 hs) q,
    fun i y py pos spos e1 e2 e3 => PS.imp (h (fun t => PS X (.Assign [.Name y py] (.ListComp elt [⟨tg, iter, ifs, 0⟩] scope pos) spos) (tAsg t (gName i))) fun h1 h2 h3 h4 => ps_setLc hc hN e1 e2 e3 h1 ok h2 h3 h4 hs) fun D σ H z => q σ H _ z⟩
/-- .. that leaves what is one's own -/
theorem rl_lc {N : Own → Prop} {α : Type} {X : Cx} {γ : Sto} {o o1 : Own} {elt tg iter : Expr} {ifs : List Expr} {scope : Scope} (own : List (Str × Nat)) (L : List α) (g : α → D) (γ1 : α → Sto) (ix : List Nat) (b : α → Bool) (f : α → D)
    (hc : X.calm = true) (hN : X.N.Nodup) (hi : RI X tg iter γ o (L.map g) o1 N) (ok : BlkOk X.N X.env.scope scope own)
    (hb : ∀ (s : Shared) (H : Hp) (C : Addr) (cl : List (Str × Addr)) (fp : List Addr) (a : α), a ∈ L →
      RG (X.blk s H scope (compEnvC scope cl C X.env) fp) tg (g a) (wipeG γ (own.map (·.2))) (γ1 a) ix ∧ RTs (X.blk s H scope (compEnvC scope cl C X.env) fp) ifs (γ1 a) o1 (b a) o1 ∧
      (b a = true → RE (X.blk s H scope (compEnvC scope cl C X.env) fp) elt (γ1 a) o1 (f a) o1))
    (hx : ∀ i ∈ ix, i ∈ own.map (·.2)) (hl : L.length ≤ 100000) (hs : ∀ x, foldedSetIterable iter X.env x = pure x := by intro _; rfl) (hNo : N o1 := by trivial) :
    RLc X elt [⟨tg, iter, ifs, 0⟩] scope γ o (.lst ((L.filter b).map f)) o1 := by
  have q := rl_lcI (X := X) L g (fun _ => γ1) ix (fun _ => o1) (fun _ => b) (fun _ _ => o1) (fun _ => f) hc hN hi ok ⟨fun s H C cl fp i a ha => by
    obtain ⟨h1, h2, h3⟩ := hb s H C cl fp a (List.mem_of_getElem? ha)
    exact ⟨h1, h2, h3⟩, fun _ _ _ _ => rfl⟩ hx hl hs (fun _ => hNo)
  rw [collect_pure] at q
  exact q
/-- .. without tests -/
theorem rl_map {N : Own → Prop} {α : Type} {X : Cx} {γ : Sto} {o o1 : Own} {elt tg iter : Expr} {scope : Scope} (own : List (Str × Nat)) (L : List α) (g : α → D) (γ1 : α → Sto) (ix : List Nat) (f : α → D)
    (hc : X.calm = true) (hN : X.N.Nodup) (hi : RI X tg iter γ o (L.map g) o1 N) (ok : BlkOk X.N X.env.scope scope own)
    (hb : ∀ (s : Shared) (H : Hp) (C : Addr) (cl : List (Str × Addr)) (fp : List Addr) (a : α), a ∈ L →
      RG (X.blk s H scope (compEnvC scope cl C X.env) fp) tg (g a) (wipeG γ (own.map (·.2))) (γ1 a) ix ∧ RE (X.blk s H scope (compEnvC scope cl C X.env) fp) elt (γ1 a) o1 (f a) o1)
    (hx : ∀ i ∈ ix, i ∈ own.map (·.2)) (hl : L.length ≤ 100000) (hs : ∀ x, foldedSetIterable iter X.env x = pure x := by intro _; rfl) (hNo : N o1 := by trivial) :
    RLc X elt [⟨tg, iter, [], 0⟩] scope γ o (.lst (L.map f)) o1 := by
  have q := rl_lc (X := X) own L g γ1 ix (fun _ => true) f hc hN hi ok (fun s H C cl fp a ha => ⟨(hb s H C cl fp a ha).1, rts_nil, fun _ => (hb s H C cl fp a ha).2⟩) hx hl hs hNo
  rw [List.filter_eq_self.mpr (fun _ _ => rfl)] at q
  exact q

theorem lc2_words {α β : Type} {X : Cx} {γ : Sto} {o o1 : Own} {tg iter tg1 iter1 : Expr} {ifs1 : List Expr} {elt : Expr} (vs vs1 : List Nat) (L : List α) (g : α → D) (γ1 : α → Sto) (ix : List Nat)
    (M : α → List β) (g2 : α → β → D) (γ2 : α → β → Sto) (ix2 : List Nat) (b : α → β → Bool) (f : α → β → D)
    (hx : ∀ i ∈ ix, i ∈ vs) (hx2 : ∀ i ∈ ix2, i ∈ vs1) (hl : (L.map fun a => (M a).length).sum ≤ 100000) (σ : L2.St) (H : Hp) (Q : VK)
    (h : tE X.K γ o (.lst (L.flatMap fun a => ((M a).filter (b a)).map (f a))) o1 σ H Q) :
    tLc2 (tI X.K γ o (L.map g) o1) (fun v σ H Q => ∃ a, a ∈ L ∧ tG X.K (g a) (wipeG γ vs) (γ1 a) ix v σ H Q) tYes (fun σ H R => ∃ a, a ∈ L ∧ tI X.K (γ1 a) o1 ((M a).map (g2 a)) o1 σ H R)
      (fun v σ H Q => ∃ a c, a ∈ L ∧ c ∈ M a ∧ tG X.K (g2 a c) (wipeG (γ1 a) vs1) (γ2 a c) ix2 v σ H Q) (fun σ H Q => ∃ a c, a ∈ L ∧ c ∈ M a ∧ tT X.K (γ2 a c) o1 (b a c) o1 σ H Q)
      (fun σ H Q => ∃ a c, a ∈ L ∧ c ∈ M a ∧ b a c = true ∧ tE X.K (γ2 a c) o1 (f a c) o1 σ H Q) vs vs1 σ H Q := by
  obtain ⟨Hb, F, w, s, q⟩ := h
  refine ⟨Hb, F, w, s, fun J Hb1 H1 e1 w1 good D₀ hD => ?_⟩
  let res : List α → List D := fun l => l.flatMap fun a => ((M a).filter (b a)).map (f a)
  let tot : List α → Nat := fun l => (l.map fun a => (M a).length).sum
  have hF : F D₀ = none := w1.f.none hD
  refine ⟨fun i m H' => m = L.length - i ∧ i ≤ L.length ∧ ∃ (Hb' : Hp) (acc : List V), Ex Hb1 Hb' ∧ Wd X.K Hb' (upd F D₀ (.lst acc)) o1 H' ∧ DenL X.K Hb' acc (res (L.take i)) ∧ acc.length ≤ tot (L.take i), ⟨L.length, by simp, Nat.zero_le _, Hb1, [], Ex.refl _, w1.alloc hD, .nil, Nat.zero_le _⟩, ?_⟩
  rintro i m H' ⟨rfl, hi', Hb', acc, e', w', l', z'⟩
  by_cases c : i < L.length
  · have hla : L[i]? = some L[i] := List.getElem?_eq_getElem c
    generalize L[i] = a at hla
    have ha : a ∈ L := List.mem_of_getElem? hla
    have c' : i < (L.map g).length := by rw [List.length_map]; exact c
    have eg : (L.map g)[i] = g a := by
      have z : (L.map g)[i]? = some (g a) := by rw [List.getElem?_map, hla]; rfl
      exact (List.getElem?_eq_some_iff.mp z).2
    obtain ⟨g1, g2'⟩ := good.go i Hb' H' _ _ c' e' trivial w'
    rw [eg] at g2'
    have tk : L.take (i + 1) = L.take i ++ [a] := by rw [List.take_succ, hla]; rfl
    have rk : res (L.take (i + 1)) = res (L.take i) ++ ((M a).filter (b a)).map (f a) := by
      show (L.take (i + 1)).flatMap _ = _
      rw [tk, List.flatMap_append, List.flatMap_singleton]
    have nk : tot (L.take (i + 1)) = tot (L.take i) + (M a).length := by
      show ((L.take (i + 1)).map _).sum = _
      rw [tk, List.map_append, List.sum_append, List.map_singleton, List.sum_singleton]
    have tle : tot (L.take (i + 1)) ≤ 100000 := by
      have z : tot L = tot (L.take (i + 1)) + tot (L.drop (i + 1)) := by
        show (L.map _).sum = ((L.take (i + 1)).map _).sum + ((L.drop (i + 1)).map _).sum
        rw [← List.sum_append, ← List.map_append, List.take_append_drop]
      have z2 : tot L ≤ 100000 := hl
      omega
    refine .inr ⟨g1, fun H2 => ∃ (Hb2 : Hp) (acc : List V), Ex Hb1 Hb2 ∧ Wd X.K Hb2 (upd F D₀ (.lst acc)) o1 H2 ∧ DenL X.K Hb2 acc (res (L.take (i + 1))) ∧ acc.length ≤ tot (L.take (i + 1)), fun H2 p => ⟨L.length - (i + 1), by omega, rfl, c, p⟩, fun x H2 y => ?_⟩
    obtain ⟨Hb2, e2, w2, n2⟩ := g2' x H2 y
    have e12 := e'.trans e2
    refine ⟨a, ha, Hb2, w2.b, (s.mono (e1.trans e12)).wipe _, n2, fun σ' s' hw => ⟨(hw _ hx).trans wipe_wipe, ?_⟩⟩
    show ∃ a, a ∈ L ∧ tI X.K (γ1 a) o1 ((M a).map (g2 a)) o1 σ' H2 _
    refine ⟨a, ha, Hb2, _, w2, s', fun J1 Hb3 H3 e3 w3 good1 => ?_⟩
    let ys := M a
    refine ⟨fun j k H' => k = (M a).length - j ∧ j ≤ (M a).length ∧ ∃ (Hb' : Hp) (acc : List V), Ex Hb3 Hb' ∧ Wd X.K Hb' (upd F D₀ (.lst acc)) o1 H' ∧ DenL X.K Hb' acc (res (L.take i) ++ (((M a).take j).filter (b a)).map (f a)) ∧ acc.length ≤ tot (L.take i) + j,
      ⟨(M a).length, by simp, Nat.zero_le _, Hb3, acc, Ex.refl _, w3, ?_, z'⟩, ?_⟩
    · rw [List.take_zero, List.filter_nil, List.map_nil, List.append_nil]
      exact l'.mono (e2.trans e3)
    rintro j k H4 ⟨rfl, hj', Hb4, acc4, e4, w4, l4, z4⟩
    by_cases cj : j < (M a).length
    · have hlc : (M a)[j]? = some (M a)[j] := List.getElem?_eq_getElem cj
      generalize (M a)[j] = y0 at hlc
      have hy : y0 ∈ M a := List.mem_of_getElem? hlc
      have cj' : j < ((M a).map (g2 a)).length := by rw [List.length_map]; exact cj
      have eg2 : ((M a).map (g2 a))[j] = g2 a y0 := by
        have z : ((M a).map (g2 a))[j]? = some (g2 a y0) := by rw [List.getElem?_map, hlc]; rfl
        exact (List.getElem?_eq_some_iff.mp z).2
      obtain ⟨f1, f2⟩ := good1.go j Hb4 H4 _ _ cj' e4 trivial w4
      rw [eg2] at f2
      have tj : (((M a).take (j + 1)).filter (b a)).map (f a) = (((M a).take j).filter (b a)).map (f a) ++ (if b a y0 = true then [f a y0] else []) := by
        rw [List.take_succ, hlc]
        show (((M a).take j ++ [y0]).filter (b a)).map (f a) = _
        rw [List.filter_append, List.map_append]
        by_cases cb : b a y0 = true
        · rw [if_pos cb, List.filter_cons_of_pos cb]; rfl
        · rw [if_neg cb, List.filter_cons_of_neg cb]; rfl
      refine .inr ⟨f1, fun H5 => ∃ (Hb5 : Hp) (acc : List V), Ex Hb3 Hb5 ∧ Wd X.K Hb5 (upd F D₀ (.lst acc)) o1 H5 ∧ DenL X.K Hb5 acc (res (L.take i) ++ (((M a).take (j + 1)).filter (b a)).map (f a)) ∧ acc.length ≤ tot (L.take i) + (j + 1), fun H5 p => ⟨(M a).length - (j + 1), by omega, rfl, cj, p⟩, fun x5 H5 y5 => ?_⟩
      obtain ⟨Hb5, e5, w5, n5⟩ := f2 x5 H5 y5
      refine ⟨a, y0, ha, hy, Hb5, w5.b, (s'.mono (e3.trans (e4.trans e5))).wipe _, n5, fun σ5 s5 hw5 => ⟨(hw5 _ hx2).trans wipe_wipe, ?_⟩⟩
      refine ⟨a, y0, ha, hy, Hb5, _, w5, s5, fun Hb6 H6 e6 w6 => ?_⟩
      have l6 := l4.mono (e5.trans e6)
      cases hbi : b a y0 with
      | true =>
        show ∃ a c, a ∈ L ∧ c ∈ M a ∧ b a c = true ∧ tE X.K (γ2 a c) o1 (f a c) o1 σ5 H6 _
        refine ⟨a, y0, ha, hy, hbi, Hb6, _, w6, s5.mono e6, fun z Hb7 H7 e7 w7 n7 => ⟨acc4, w7.f _ _ upd_same, ?_, Hb7, acc4 ++ [z], e4.trans (e5.trans (e6.trans e7)), w7.grow, ?_, ?_⟩⟩
        · have z5 : 100000 < sizeLine := by decide
          omega
        · rw [tj, hbi, if_pos rfl, ← List.append_assoc]
          exact (l6.mono e7).append (.cons n7 .nil)
        · rw [List.length_append, List.length_singleton]; omega
      | false =>
        show ∃ (Hb5 : Hp) (acc : List V), _
        refine ⟨Hb6, acc4, e4.trans (e5.trans e6), w6, ?_, by omega⟩
        rw [tj, hbi, if_neg (by decide), List.append_nil]
        exact l6
    · have ej : j = (M a).length := by omega
      subst ej
      have st := good1.stop Hb4 H4 _ _ e4 trivial w4
      rw [List.length_map] at st
      rw [List.take_length] at l4
      exact .inl ⟨st, Hb4, acc4, e12.trans (e3.trans e4), w4, by rw [rk]; exact l4, by rw [nk]; exact z4⟩
  · have ei : i = L.length := by omega
    subst ei
    have st := good.stop Hb' H' _ _ e' trivial w'
    rw [List.length_map] at st
    rw [List.take_length] at l'
    obtain ⟨Hb2, e2, w2, n2⟩ := w'.done hF l'
    exact .inl ⟨st, q _ Hb2 H' (e1.trans (e'.trans e2)) w2 n2⟩
/-- [elt for tg in iter for tg1 in iter1 if ..] -/
theorem rl_lc2 {α β : Type} {X : Cx} {γ : Sto} {o o1 : Own} {elt tg iter tg1 iter1 : Expr} {ifs1 : List Expr} {scope : Scope} (own : List (Str × Nat)) (vs1 : List Nat) (L : List α) (g : α → D) (γ1 : α → Sto) (ix : List Nat)
    (M : α → List β) (g2 : α → β → D) (γ2 : α → β → Sto) (ix2 : List Nat) (b : α → β → Bool) (f : α → β → D)
    (hc : X.calm = true) (hN : X.N.Nodup) (hi : RI X tg iter γ o (L.map g) o1) (ok : BlkOk X.N X.env.scope scope own) (hv : ∀ i ∈ vs1, i ∈ own.map (·.2))
    (hb : ∀ (s : Shared) (H : Hp) (C : Addr) (cl : List (Str × Addr)) (fp : List Addr) (a : α), a ∈ L →
      RG (X.blk s H scope (compEnvC scope cl C X.env) fp) tg (g a) (wipeG γ (own.map (·.2))) (γ1 a) ix ∧ RI (X.blk s H scope (compEnvC scope cl C X.env) fp) tg1 iter1 (γ1 a) o1 ((M a).map (g2 a)) o1 ∧
      ∀ c ∈ M a, RG (X.blk s H scope (compEnvC scope cl C X.env) fp) tg1 (g2 a c) (wipeG (γ1 a) vs1) (γ2 a c) ix2 ∧ RTs (X.blk s H scope (compEnvC scope cl C X.env) fp) ifs1 (γ2 a c) o1 (b a c) o1 ∧
        (b a c = true → RE (X.blk s H scope (compEnvC scope cl C X.env) fp) elt (γ2 a c) o1 (f a c) o1))
    (hx : ∀ i ∈ ix, i ∈ own.map (·.2)) (hx2 : ∀ i ∈ ix2, i ∈ vs1) (hl : (L.map fun a => (M a).length).sum ≤ 100000) (hs : ∀ x, foldedSetIterable iter X.env x = pure x := by intro _; rfl) (hs1 : ∀ env x, foldedSetIterable iter1 env x = pure x := by intro _ _; rfl) :
    RLc X elt [⟨tg, iter, [], 0⟩, ⟨tg1, iter1, ifs1, 0⟩] scope γ o (.lst (L.flatMap fun a => ((M a).filter (b a)).map (f a))) o1 := by
  have hg : ∀ (s : Shared) (H : Hp) (C : Addr) (cl : List (Str × Addr)) (fp : List Addr), PG (X.blk s H scope (compEnvC scope cl C X.env) fp) tg (fun v σ H Q => ∃ a, a ∈ L ∧ tG X.K (g a) (wipeG γ (own.map (·.2))) (γ1 a) ix v σ H Q) := fun s H C cl fp =>
    ⟨fun pins s1 σ H1 v u Q I r ⟨a, ha, q⟩ => (hb s H C cl fp a ha).1.p.run pins s1 σ H1 v u Q I r q⟩
  have hi1 : ∀ (s : Shared) (H : Hp) (C : Addr) (cl : List (Str × Addr)) (fp : List Addr), PI (X.blk s H scope (compEnvC scope cl C X.env) fp) tg1 iter1 (fun σ H R => ∃ a, a ∈ L ∧ tI X.K (γ1 a) o1 ((M a).map (g2 a)) o1 σ H R) := fun s H C cl fp =>
    ⟨fun pins s1 σ H1 R I ⟨a, ha, q⟩ => (hb s H C cl fp a ha).2.1.p.run pins s1 σ H1 R I q⟩
  have hg1 : ∀ (s : Shared) (H : Hp) (C : Addr) (cl : List (Str × Addr)) (fp : List Addr), PG (X.blk s H scope (compEnvC scope cl C X.env) fp) tg1 (fun v σ H Q => ∃ a c, a ∈ L ∧ c ∈ M a ∧ tG X.K (g2 a c) (wipeG (γ1 a) vs1) (γ2 a c) ix2 v σ H Q) := fun s H C cl fp =>
    ⟨fun pins s1 σ H1 v u Q I r ⟨a, c, ha, hc, q⟩ => ((hb s H C cl fp a ha).2.2 c hc).1.p.run pins s1 σ H1 v u Q I r q⟩
  have ht1 : ∀ (s : Shared) (H : Hp) (C : Addr) (cl : List (Str × Addr)) (fp : List Addr), PTs (X.blk s H scope (compEnvC scope cl C X.env) fp) ifs1 (fun σ H Q => ∃ a c, a ∈ L ∧ c ∈ M a ∧ tT X.K (γ2 a c) o1 (b a c) o1 σ H Q) := fun s H C cl fp =>
    ⟨fun pins s1 σ H1 Q I ⟨a, c, ha, hc, q⟩ => ((hb s H C cl fp a ha).2.2 c hc).2.1.p.run pins s1 σ H1 Q I q⟩
  have he : ∀ (s : Shared) (H : Hp) (C : Addr) (cl : List (Str × Addr)) (fp : List Addr), PE (X.blk s H scope (compEnvC scope cl C X.env) fp) elt (fun σ H Q => ∃ a c, a ∈ L ∧ c ∈ M a ∧ b a c = true ∧ tE X.K (γ2 a c) o1 (f a c) o1 σ H Q) := fun s H C cl fp =>
    ⟨fun pins s1 σ H1 Q I ⟨a, c, ha, hc, hbt, q⟩ => (((hb s H C cl fp a ha).2.2 c hc).2.2 hbt).p.run pins s1 σ H1 Q I q⟩
  have R := @lc2_words α β X γ o o1 tg iter tg1 iter1 ifs1 elt (own.map (·.2)) vs1 L g γ1 ix M g2 γ2 ix2 b f hx hx2 hl
  exact ⟨fun pos => PE.imp (pe_lc2 hc hN hi.p ok hv hg (fun _ _ _ _ _ => pts_nil) hi1 hg1 ht1 he hs hs1) R,
    fun i y py pos spos e1 e2 e3 => PS.imp (ps_setLc2 hc hN e1 e2 e3 hi.p ok hv hg (fun _ _ _ _ _ => pts_nil) hi1 hg1 ht1 he hs hs1) fun D σ H z => R σ H _ z⟩
end J
end

section
set_option Elab.async false
set_option linter.all false
set_option maxRecDepth 100000
namespace J
open PySem PySem.Spec PyProof.Rows L2

/-! ### blocks -/
inductive Out where
  | nx (γ : Sto) (o : Own) | rt (d : D) (o : Own) | bk (γ : Sto) (o : Own) | ct (γ : Sto) (o : Own)
def After (K : PySem.W.Frag) (H0 F : Hp) (D : Ends) : Out → Prop
  | .nx γ o => ∀ σ Hb H, Ex H0 Hb → Wd K Hb F o H → Stt K Hb γ σ → D.nx σ H
  | .rt d o => ∀ v Hb H, Ex H0 Hb → Wd K Hb F o H → Den K Hb v d → D.rt v H
  | .bk γ o => ∀ σ Hb H, Ex H0 Hb → Wd K Hb F o H → Stt K Hb γ σ → D.bk σ H
  | .ct γ o => ∀ σ Hb H, Ex H0 Hb → Wd K Hb F o H → Stt K Hb γ σ → D.ct σ H
def tS (K : PySem.W.Frag) (γ : Sto) (o : Own) (out : Out) : TS := fun D σ H => ∃ H0 Hb F, Ex H0 Hb ∧ Wd K Hb F o H ∧ Stt K Hb γ σ ∧ After K H0 F D out
structure RS (X : Cx) (st : Stmt) (γ : Sto) (o : Own) (out : Out) : Prop where
  p : PS X st (tS X.K γ o out)
structure RB (X : Cx) (sts : List Stmt) (γ : Sto) (o : Own) (out : Out) : Prop where
  p : PSs X sts (tS X.K γ o out)

/-- what is forgotten of a store -/
def LeS (γ γ' : Sto) : Prop := γ'.length = γ.length ∧ ∀ (i : Nat) (d : D), γ'[i]? = some (some d) → γ[i]? = some (some d)
theorem LeS.refl (γ : Sto) : LeS γ γ := ⟨rfl, fun _ _ h => h⟩
theorem LeS.trans {a b c : Sto} (h : LeS a b) (h2 : LeS b c) : LeS a c := ⟨h2.1.trans h.1, fun i d e => h.2 i d (h2.2 i d e)⟩
theorem Stt.forget {K : PySem.W.Frag} {Hb : Hp} {γ γ' : Sto} {σ : L2.St} (s : Stt K Hb γ σ) (h : LeS γ γ') : Stt K Hb γ' σ := ⟨h.1.trans s.len, fun i d e => s.at' i d (h.2 i d e)⟩
theorem LeS.nil : LeS [] [] := LeS.refl _
theorem LeS.cons (x : Option D) {γ γ' : Sto} (h : LeS γ γ') : LeS (x :: γ) (x :: γ') := ⟨by rw [List.length_cons, List.length_cons, h.1], fun i d e => by
  cases i with
  | zero => exact e
  | succ i => rw [List.getElem?_cons_succ] at e ⊢; exact h.2 i d e⟩
theorem LeS.drop (x : Option D) {γ γ' : Sto} (h : LeS γ γ') : LeS (x :: γ) (none :: γ') := ⟨by rw [List.length_cons, List.length_cons, h.1], fun i d e => by
  cases i with
  | zero => cases e
  | succ i => rw [List.getElem?_cons_succ] at e ⊢; exact h.2 i d e⟩

section
variable {X : Cx} {γ γ1 γ2 γ' : Sto} {o o1 o2 o' : Own} {st : Stmt} {rest body : List Stmt} {out : Out} {e c : Expr} {d : D} {pos : Pos}
theorem rb_nil : RB X [] γ o (.nx γ o) := ⟨PSs.imp pss_nil fun D σ H ⟨H0, Hb, F, e, w, s, q⟩ => q σ Hb H e w s⟩
theorem rb_cons (h1 : RS X st γ o (.nx γ1 o1)) (h2 : RB X rest γ1 o1 out) : RB X (st :: rest) γ o out :=
  ⟨PSs.imp (pss_cons h1.p h2.p) fun D σ H ⟨H0, Hb, F, e, w, s, q⟩ => ⟨H0, Hb, F, e, w, s, fun σ1 Hb1 H1 e1 w1 s1 => ⟨H0, Hb1, F, e1, w1, s1, q⟩⟩⟩
theorem rb_one (h1 : RS X st γ o out) : RB X [st] γ o out := ⟨pss_one h1.p⟩
theorem rb_ret (h1 : RS X st γ o (.rt d o')) : RB X (st :: rest) γ o (.rt d o') := ⟨PSs.imp (pss_cons h1.p pss_never) fun D σ H ⟨H0, Hb, F, e, w, s, q⟩ => ⟨H0, Hb, F, e, w, s, q⟩⟩
theorem rb_ct (h1 : RS X st γ o (.ct γ' o')) : RB X (st :: rest) γ o (.ct γ' o') := ⟨PSs.imp (pss_cons h1.p pss_never) fun D σ H ⟨H0, Hb, F, e, w, s, q⟩ => ⟨H0, Hb, F, e, w, s, q⟩⟩
theorem rb_bk (h1 : RS X st γ o (.bk γ' o')) : RB X (st :: rest) γ o (.bk γ' o') := ⟨PSs.imp (pss_cons h1.p pss_never) fun D σ H ⟨H0, Hb, F, e, w, s, q⟩ => ⟨H0, Hb, F, e, w, s, q⟩⟩
theorem rb_forget (h : RB X rest γ' o out) (l : LeS γ γ') : RB X rest γ o out := ⟨PSs.imp h.p fun D σ H ⟨H0, Hb, F, e, w, s, q⟩ => ⟨H0, Hb, F, e, w, s.forget l, q⟩⟩
theorem rs_pass : RS X (.Pass pos) γ o (.nx γ o) := ⟨PS.imp ps_pass fun D σ H ⟨H0, Hb, F, e, w, s, q⟩ => q σ Hb H e w s⟩
theorem rs_break : RS X (.Break pos) γ o (.bk γ o) := ⟨PS.imp ps_break fun D σ H ⟨H0, Hb, F, e, w, s, q⟩ => q σ Hb H e w s⟩
theorem rs_continue : RS X (.Continue pos) γ o (.ct γ o) := ⟨PS.imp ps_continue fun D σ H ⟨H0, Hb, F, e, w, s, q⟩ => q σ Hb H e w s⟩
theorem rs_expr (he : RE X e γ o d o1) (hs : swapsWith e none pos.line X.env = pure false := by rfl) : RS X (.Expr e pos) γ o (.nx γ o1) :=
  ⟨PS.imp (ps_expr he.p hs) fun D σ H ⟨H0, Hb, F, e, w, s, q⟩ => ⟨Hb, F, w, s, fun v Hb1 H1 e1 w1 n1 => q σ Hb1 H1 (e.trans e1) w1 (s.mono e1)⟩⟩
theorem rs_ret (he : RE X e γ o d o1) : RS X (.Return (some e) pos) γ o (.rt d o1) :=
  ⟨PS.imp (ps_ret he.p) fun D σ H ⟨H0, Hb, F, e, w, s, q⟩ => ⟨Hb, F, w, s, fun v Hb1 H1 e1 w1 n1 => q v Hb1 H1 (e.trans e1) w1 n1⟩⟩
theorem rs_retN : RS X (.Return none pos) γ o (.rt .non o) :=
  ⟨PS.imp ps_retN fun D σ H ⟨H0, Hb, F, e, w, s, q⟩ => q .non Hb H e w .non⟩
theorem rs_set (i : Nat) {x : Str} {pos' : Pos} (hN : X.N.Nodup) (hi : X.N[i]? = some x) (hx : Loc X.env.scope x) (he : RE X e γ o d o1) (hs : swapsWith e (some (.Name x pos')) pos.line X.env = pure false := by rfl)
    (hf : X.fn x = true ∨ X.env.scope.names.lookup x = some .local := by first | exact .inl rfl | exact .inr rfl | assumption) : RS X (.Assign [.Name x pos'] e pos) γ o (.nx (γ.set i (some d)) o1) :=
  ⟨PS.imp (ps_set hN hi hx he.p hs hf) fun D σ H ⟨H0, Hb, F, e, w, s, q⟩ => ⟨Hb, F, w, s, fun v Hb1 H1 e1 w1 n1 => q _ Hb1 H1 (e.trans e1) w1 ((s.mono e1).set i n1)⟩⟩
/-- x = [..], x a local -/
theorem rs_setL (i : Nat) {x : Str} {pos' pos2 : Pos} {elt : Expr} {gens : List Comprehension} {scope : Scope} (hN : X.N.Nodup) (hi : X.N[i]? = some x) (hx : X.env.scope.names.lookup x = some .local) (he : RLc X elt gens scope γ o d o1)
    (hs : swapsWith (.ListComp elt gens scope pos2) (some (.Name x pos')) pos.line X.env = pure true) : RS X (.Assign [.Name x pos'] (.ListComp elt gens scope pos2) pos) γ o (.nx (γ.set i (some d)) o1) :=
  ⟨PS.imp (he.s i x pos' pos2 pos hi hx hs) fun D σ H ⟨H0, Hb, F, e, w, s, q⟩ => ⟨Hb, F, w, s, fun v Hb1 H1 e1 w1 n1 => q _ Hb1 H1 (e.trans e1) w1 ((s.mono e1).set i n1)⟩⟩
/-- a, b, .. = e by a tuple -/
theorem rs_unp {tg : Expr} {ix : List Nat} (he : RE X e γ o d o1) (hg : RG X tg d γ γ' ix) (hs : swapsWithSole [tg] e pos.line X.env = pure false := by rfl) (hw : swappedStores [tg] e X.env = pure none := by rfl) (h1 : (assignEach [tg] X.env).map (·.2) = [assign tg X.env] := by rfl) : RS X (.Assign [tg] e pos) γ o (.nx γ' o1) :=
  ⟨PS.imp (ps_asg he.p hg.p hs hw h1) fun D σ H ⟨H0, Hb, F, e, w, s, q⟩ => ⟨Hb, F, w, s, fun v Hb1 H1 e1 w1 n1 => ⟨Hb1, w1.b, s.mono e1, n1, fun σ' s' _ => q _ Hb1 H1 (e.trans e1) w1 s'⟩⟩⟩
/-- a, b = e1, e2, both locals -/
theorem rs_par (i j : Nat) {x y : Str} {a b : Expr} {d1 d2 : D} {px py pt : Pos} {kt k2 pt2} (hc : X.calm = true) (hN : X.N.Nodup) (hi : X.N[i]? = some x) (hj : X.N[j]? = some y) (hij : i ≠ j)
    (hx : X.env.scope.names.lookup x = some .local) (hy : X.env.scope.names.lookup y = some .local) (ha : RA X [a, b] γ o [d1, d2] o1)
    (hw : swappedStores [.Tuple [.Name x px, .Name y py] kt pt] (.Tuple [a, b] k2 pt2) X.env = pure (some [x, y]))
    (hs : swapsWithSole [.Tuple [.Name x px, .Name y py] kt pt] (.Tuple [a, b] k2 pt2) pos.line X.env = pure false := by rfl) :
    RS X (.Assign [.Tuple [.Name x px, .Name y py] kt pt] (.Tuple [a, b] k2 pt2) pos) γ o (.nx ((γ.set i (some d1)).set j (some d2)) o1) :=
  ⟨PS.imp (ps_par hc hN hi hj hij hx hy ha.p hw hs) fun D σ H ⟨H0, Hb, F, e, w, s, q⟩ => ⟨Hb, F, w, s, fun vs Hb1 H1 e1 w1 n1 => by
    cases n1 with
    | cons n1 l =>
      cases l with
      | cons n2 l =>
        cases l
        exact ⟨_, _, rfl, q _ Hb1 H1 (e.trans e1) w1 (((s.mono e1).set i n1).set j n2)⟩⟩⟩
theorem rs_ifT {a b : List Stmt} (hc : RT X c γ o true o1) (h : RB X a γ o1 out) : RS X (.If c a b pos) γ o out :=
  ⟨PS.imp (ps_if hc.p h.p pss_never) fun D σ H ⟨H0, Hb, F, e, w, s, q⟩ => ⟨Hb, F, w, s, fun Hb1 H1 e1 w1 => ⟨H0, Hb1, F, e.trans e1, w1, s.mono e1, q⟩⟩⟩
theorem rs_ifF {a b : List Stmt} (hc : RT X c γ o false o1) (h : RB X b γ o1 out) : RS X (.If c a b pos) γ o out :=
  ⟨PS.imp (ps_if hc.p pss_never h.p) fun D σ H ⟨H0, Hb, F, e, w, s, q⟩ => ⟨Hb, F, w, s, fun Hb1 H1 e1 w1 => ⟨H0, Hb1, F, e.trans e1, w1, s.mono e1, q⟩⟩⟩
theorem rs_ifB {a b : List Stmt} {k : Bool} (hc : RT X c γ o k o1) (h1 : k = true → RB X a γ o1 out) (h2 : k = false → RB X b γ o1 out) : RS X (.If c a b pos) γ o out := by
  cases k with
  | true => exact rs_ifT hc (h1 rfl)
  | false => exact rs_ifF hc (h2 rfl)

/-! ### loops -/
/-- a for that goes through, or is left by a return or a break in the turn n -/
theorem rs_forG {α : Type} {tg iter : Expr} (L : List α) (g : α → D) (γs : Nat → Sto) (os : Nat → Own) (γ1 : Nat → α → Sto) (ix : List Nat) (bo : Nat → α → Out) (n : Nat) (hc : X.calm = true) (hp : PassesOwn (model X.prog X.w) X.A X.env X.xe)
    (hi : RI X tg iter γ o (L.map g) (os 0)) (h0 : γs 0 = γ) (hg : ∀ i a, L[i]? = some a → i ≤ n → RG X tg (g a) (γs i) (γ1 i a) ix) (hb : ∀ i a, L[i]? = some a → i ≤ n → RB X body (γ1 i a) (os i) (bo i a))
    (hn : ∀ i a, L[i]? = some a → i < n → ∃ γ2, (bo i a = .nx γ2 (os (i + 1)) ∨ bo i a = .ct γ2 (os (i + 1))) ∧ LeS γ2 (γs (i + 1)))
    (hd : (n = L.length ∧ out = .nx (γs n) (os n)) ∨ ∃ a, L[n]? = some a ∧ ((∃ d o', bo n a = .rt d o' ∧ out = .rt d o') ∨ ∃ γ2 o', bo n a = .bk γ2 o' ∧ out = .nx γ2 o')) (hs : ∀ x, foldedSetIterable iter X.env x = pure x := by intro _; rfl) :
    RS X (.For tg iter body [] pos) γ o out := by
  have pg : PG X tg (fun v σ H Q => ∃ i a, L[i]? = some a ∧ i ≤ n ∧ tG X.K (g a) (γs i) (γ1 i a) ix v σ H Q) := ⟨fun pins s1 σ H1 v u Q I r ⟨i, a, h1, h2, q⟩ => (hg i a h1 h2).p.run pins s1 σ H1 v u Q I r q⟩
  have pb : PSs X body (fun D σ H => ∃ i a, L[i]? = some a ∧ i ≤ n ∧ tS X.K (γ1 i a) (os i) (bo i a) D σ H) := ⟨fun pins s1 σ H1 D I ⟨i, a, h1, h2, q⟩ => (hb i a h1 h2).p.run pins s1 σ H1 D I q⟩
  refine ⟨PS.imp (ps_for hp hc hi.p pg pb hs) fun D σ H ⟨H0, Hb, F, e, w, s, q⟩ => ⟨Hb, F, w, s, fun J Hb1 H1 e1 w1 good => ?_⟩⟩
  refine ⟨fun i m σ' H' => m = L.length - i ∧ i ≤ L.length ∧ i ≤ n ∧ ∃ Hb', Ex Hb1 Hb' ∧ Wd X.K Hb' F (os i) H' ∧ Stt X.K Hb' (γs i) σ', ⟨L.length, by simp, Nat.zero_le _, Nat.zero_le _, Hb1, Ex.refl _, w1, by rw [h0]; exact s.mono e1⟩, ?_⟩
  rintro i m σ' H' ⟨rfl, hi', hin, Hb', e', w', s'⟩
  by_cases cl : i = L.length
  · subst cl
    rcases hd with ⟨rfl, rfl⟩ | ⟨a, ha, _⟩
    · have st := good.stop Hb' H' _ _ e' trivial w'
      rw [List.length_map] at st
      exact .inl ⟨st, q _ Hb' H' (e.trans (e1.trans e')) w' s'⟩
    · have := (List.getElem?_eq_some_iff.mp ha).1
      omega
  · have cl : i < L.length := by omega
    have hla : L[i]? = some L[i] := List.getElem?_eq_getElem cl
    generalize L[i] = a at hla
    have c' : i < (L.map g).length := by rw [List.length_map]; exact cl
    have eg : (L.map g)[i] = g a := by
      have z : (L.map g)[i]? = some (g a) := by rw [List.getElem?_map, hla]; rfl
      exact (List.getElem?_eq_some_iff.mp z).2
    obtain ⟨g1, g2⟩ := good.go i Hb' H' _ _ c' e' trivial w'
    rw [eg] at g2
    refine .inr ⟨g1, fun σ2 H2 => i < n ∧ ∃ Hb2, Ex Hb1 Hb2 ∧ Wd X.K Hb2 F (os (i + 1)) H2 ∧ Stt X.K Hb2 (γs (i + 1)) σ2, fun σ2 H2 p => ⟨L.length - (i + 1), by omega, rfl, cl, p.1, p.2⟩, fun x H2 y => ?_⟩
    obtain ⟨Hb2, e2, w2, n2⟩ := g2 x H2 y
    refine ⟨i, a, hla, hin, Hb2, w2.b, s'.mono e2, n2, fun σ3 s3 _ => ⟨i, a, hla, hin, Hb1, Hb2, F, e'.trans e2, w2, s3, ?_⟩⟩
    by_cases cn : i < n
    · obtain ⟨γ2, ho, hle⟩ := hn i a hla cn
      rcases ho with ho | ho
      · rw [ho]
        exact fun σ4 Hb4 H4 e4 w4 s4 => ⟨cn, Hb4, e4, w4, s4.forget hle⟩
      · rw [ho]
        exact fun σ4 Hb4 H4 e4 w4 s4 => ⟨cn, Hb4, e4, w4, s4.forget hle⟩
    · have ein : i = n := by omega
      subst ein
      rcases hd with ⟨rfl, rfl⟩ | ⟨a', ha', hd⟩
      · omega
      · rw [hla] at ha'
        cases ha'
        rcases hd with ⟨d, o', h1, rfl⟩ | ⟨γ2, o', h1, rfl⟩
        · rw [h1]
          exact fun v Hb4 H4 e4 w4 n4 => q v Hb4 H4 ((e.trans e1).trans e4) w4 n4
        · rw [h1]
          exact fun σ4 Hb4 H4 e4 w4 s4 => q σ4 Hb4 H4 ((e.trans e1).trans e4) w4 s4
/-- a for that goes through -/
theorem rs_for {α : Type} {tg iter : Expr} (L : List α) (g : α → D) (γs : Nat → Sto) (os : Nat → Own) (γ1 : Nat → α → Sto) (ix : List Nat) (bo : Nat → α → Out) (hc : X.calm = true) (hp : PassesOwn (model X.prog X.w) X.A X.env X.xe)
    (hi : RI X tg iter γ o (L.map g) (os 0)) (h0 : γs 0 = γ) (hg : ∀ i a, L[i]? = some a → RG X tg (g a) (γs i) (γ1 i a) ix) (hb : ∀ i a, L[i]? = some a → RB X body (γ1 i a) (os i) (bo i a))
    (hn : ∀ i a, L[i]? = some a → ∃ γ2, (bo i a = .nx γ2 (os (i + 1)) ∨ bo i a = .ct γ2 (os (i + 1))) ∧ LeS γ2 (γs (i + 1))) (hs : ∀ x, foldedSetIterable iter X.env x = pure x := by intro _; rfl) :
    RS X (.For tg iter body [] pos) γ o (.nx (γs L.length) (os L.length)) :=
  rs_forG L g γs os γ1 ix bo L.length hc hp hi h0 (fun i a h _ => hg i a h) (fun i a h _ => hb i a h) (fun i a h _ => hn i a h) (.inl ⟨rfl, rfl⟩) hs
/-- a while: I says what holds of a loop's state a with the measure m -/
theorem rs_while {ι : Type} (I : Nat → ι → Prop) (γs : ι → Sto) (os : ι → Own) (kb : ι → Bool) (o1 : ι → Own) (bo : ι → Out) (m0 : Nat) (a0 : ι) (hp : PassesOwn (model X.prog X.w) X.A X.env X.xe)
    (h0 : I m0 a0) (hγ : γs a0 = γ) (ho : os a0 = o) (ht : ∀ m a, I m a → RT X c (γs a) (os a) (kb a) (o1 a)) (hb : ∀ m a, I m a → kb a = true → RB X body (γs a) (o1 a) (bo a))
    (hn : ∀ m a, I m a → (kb a = false ∧ out = .nx (γs a) (o1 a)) ∨ (kb a = true ∧ ((∃ γ2 m' a', m' < m ∧ I m' a' ∧ (bo a = .nx γ2 (os a') ∨ bo a = .ct γ2 (os a')) ∧ LeS γ2 (γs a')) ∨ (∃ d o', bo a = .rt d o' ∧ out = .rt d o') ∨ ∃ γ2 o', bo a = .bk γ2 o' ∧ out = .nx γ2 o'))) :
    RS X (.While c body [] pos) γ o out := by
  have pt : PT X c (fun σ H Q => ∃ m a, I m a ∧ tT X.K (γs a) (os a) (kb a) (o1 a) σ H Q) := ⟨fun pins s1 σ H1 Q I ⟨m, a, h1, q⟩ => (ht m a h1).p.run pins s1 σ H1 Q I q⟩
  have pb : PSs X body (fun D σ H => ∃ m a, I m a ∧ kb a = true ∧ tS X.K (γs a) (o1 a) (bo a) D σ H) := ⟨fun pins s1 σ H1 D I ⟨m, a, h1, h2, q⟩ => (hb m a h1 h2).p.run pins s1 σ H1 D I q⟩
  refine ⟨PS.imp (ps_while hp pt pb) fun D σ H ⟨H0, Hb, F, e, w, s, q⟩ => ?_⟩
  refine ⟨fun m σ' H' => ∃ a, I m a ∧ ∃ Hb', Ex H0 Hb' ∧ Wd X.K Hb' F (os a) H' ∧ Stt X.K Hb' (γs a) σ', ⟨m0, a0, h0, Hb, e, by rw [ho]; exact w, by rw [hγ]; exact s⟩, ?_⟩
  rintro m σ' H' ⟨a, ha, Hb', e', w', s'⟩
  refine ⟨m, a, ha, Hb', F, w', s', fun Hb2 H2 e2 w2 => ?_⟩
  rcases hn m a ha with ⟨hk, rfl⟩ | ⟨hk, hn⟩
  · rw [hk]
    exact q σ' Hb2 H2 (e'.trans e2) w2 (s'.mono e2)
  · rw [hk]
    show ∃ N : L2.St → Hp → Prop, _
    refine ⟨fun σ3 H3 => ∃ m', m' < m ∧ ∃ a', I m' a' ∧ ∃ Hb', Ex H0 Hb' ∧ Wd X.K Hb' F (os a') H3 ∧ Stt X.K Hb' (γs a') σ3, fun σ3 H3 h => h, m, a, ha, hk, H0, Hb2, F, e'.trans e2, w2, s'.mono e2, ?_⟩
    rcases hn with ⟨γ2, m', a', hm, ha', ho, hl⟩ | ⟨d, o', h1, rfl⟩ | ⟨γ2, o', h1, rfl⟩
    · rcases ho with ho | ho
      · rw [ho]
        exact fun σ4 Hb4 H4 e4 w4 s4 => ⟨m', hm, a', ha', Hb4, e4, w4, s4.forget hl⟩
      · rw [ho]
        exact fun σ4 Hb4 H4 e4 w4 s4 => ⟨m', hm, a', ha', Hb4, e4, w4, s4.forget hl⟩
    · rw [h1]; exact q
    · rw [h1]; exact q
end

/-! ### defs -/
def startG (N : List Str) (ds : List D) : Sto := ds.map some ++ List.replicate (N.length - ds.length) none
theorem stt_start {K : PySem.W.Frag} {Hb : Hp} {N : List Str} {vs : List V} {ds : List D} (l : DenL K Hb vs ds) : Stt K Hb (startG N ds) (L2.start N vs) := by
  unfold startG L2.start
  refine ⟨by rw [List.length_append, List.length_append, List.length_map, List.length_map, l.len, List.length_replicate, List.length_replicate], fun i d h => ?_⟩
  by_cases c : i < ds.length
  · rw [List.getElem?_append_left (by rw [List.length_map]; exact c), List.getElem?_map] at h
    rw [List.getElem?_append_left (by rw [List.length_map, l.len]; exact c), List.getElem?_map]
    cases e : ds[i]? with
    | none => rw [e] at h; cases h
    | some d' =>
      rw [e] at h
      cases h
      obtain ⟨v, h1, h2⟩ := l.get e
      exact ⟨v, by rw [h1]; rfl, h2⟩
  · rw [List.getElem?_append_right (by rw [List.length_map]; omega), List.getElem?_replicate] at h
    split at h <;> cases h
section
variable {P : Program} {w : World} {K : PySem.W.Frag} {mg : Str → Option Value} {base : Heap}
/-- a def by its body -/
theorem has_mk {x qual : Str} {st : Stmt} {f : Addr} {fd : FuncData} {N ps : List Str} {k : Nat} {R : List D → Own → D → Own → Prop} (F : Fun K x qual st f fd) (sc : FnScope N ps (defScope st)) (hm : mg x = some (.ref f)) (hb : Binds K fd ps [])
    (hlen : ∀ ds o d o', R ds o d o' → ds.length = ps.length)
    (body : ∀ (cdv : Value) (A : Around) (outer : List Env) (s : Shared) (H : Hp) (E : XK) (ds : List D) (o : Own) (d : D) (o' : Own), Room k (A.deeper (envOfC qual (defScope st) s.heap.objs.size f cdv)) → R ds o d o' →
      RB (cxOf CX0 P w K mg base N qual (defScope st) f cdv A outer s H E).nox (defBody st) (startG N ds) o (.rt d o')) : Has P w K mg base x (k + 1) ps.length R := by
  refine ⟨f, fd, ps, rfl, F.ok sc (fun vs H Q E h => ?_) (fun cdv A outer s H vs Q E hr h => ?_), hm, F.kp, hb⟩
  · obtain ⟨Hb, F, ds, o, d, o', _, l, h, _⟩ := h
    rw [l.len]; exact hlen _ _ _ _ h
  · obtain ⟨Hb, F', ds, o, d, o', w', l, hR, q⟩ := h
    exact ⟨_, (body cdv A outer s H E ds o d o' hr hR).p, Hb, Hb, F', Ex.refl _, w', stt_start l, fun v Hb1 H1 e1 w1 n1 => q v Hb1 H1 e1 w1 n1⟩
end
end J
end

section
set_option Elab.async false
set_option linter.all false
set_option maxRecDepth 100000
namespace J
open PySem PySem.Spec PyProof.Rows L2

/-! ### data as the library's data -/
mutual
def D.py : D → PyData
  | .non => .none
  | .bl b => .bool b
  | .int i => .int i
  | .str x => .str x
  | .tup ds => .tuple (pyL ds)
  | .wt ds => .tuple (pyL ds)
  | .ptup ds => .tuple (pyL ds)
  | .lst ds => .list (pyL ds)
  | .sl ds => .list (pyL ds)
  | _ => .dict []
def pyL : List D → List PyData
  | [] => []
  | d :: ds => d.py :: pyL ds
end
theorem pyL_map : ∀ ds : List D, pyL ds = ds.map D.py
  | [] => rfl
  | d :: ds => by show d.py :: pyL ds = _; rw [pyL_map ds]; rfl
theorem lay_cons {d : PyData} {ds : List PyData} (h : PyData.canLayAll0 (d :: ds) = true) : d.canLay0 = true ∧ PyData.canLayAll0 ds = true := by
  simpa [PyData.canLayAll0] using h
section
variable {K : PySem.W.Frag} {H : Hp}
theorem sqt_frz {a : Addr} {ob : Obj} {vs : List V} (h : H a = some (.frz ob (.tup vs))) : SqT K H a vs := .inl (.inr ⟨ob, h⟩)
theorem no_lay {kvs : List (PyData × PyData)} (h : (PyData.dict kvs).canLay0 = true) : False := by cases h
mutual
theorem Den.dp : ∀ {v : V} {d : D}, Den K H v d → d.py.canLay0 = true → Dp K H v d.py
  | _, _, .non, _ => .non
  | _, _, .bl b, _ => .bl b
  | _, _, .int i, _ => .int i
  | _, _, .str x, _ => .str x
  | _, _, .tup h l, q => .tup (SqT.of h) (DenL.dp l q)
  | _, _, .wt h l, q => .tup h (DenL.dp l q)
  | _, _, .ptup h _ _ l, q => .tup (sqt_frz h) (DenL.dp l q)
  | _, _, .dT _ _, q => (no_lay q).elim
  | _, _, .dK _ _, q => (no_lay q).elim
  | _, _, .adr _, q => (no_lay q).elim
  | _, _, .ty _, q => (no_lay q).elim
  | _, _, .lst h l, q => .lst (SqL.of h) (DenL.dp l q)
  | _, _, .sl h l, q => .lst h (DenL.dp l q)
theorem DenL.dp : ∀ {vs : List V} {ds : List D}, DenL K H vs ds → PyData.canLayAll0 (pyL ds) = true → DpAll K H vs (pyL ds)
  | _, _, .nil, _ => .nil
  | _, _, .cons h l, q => .cons (Den.dp h (lay_cons q).1) (DenL.dp l (lay_cons q).2)
end
end
/-- equal, as == tells -/
def eqD (a b : D) : Bool := PyData.eqv a.py b.py
/-- nothing but numbers, texts, truths, None, lists and tuples, n deep at most -/
inductive Lay : Nat → D → Prop
  | non {n} : Lay n .non
  | bl {n} (b : Bool) : Lay n (.bl b)
  | int {n} (i : Int) : Lay n (.int i)
  | str {n} (x : Str) : PySem.PyData.strOk x = true → Lay n (.str x)
  | tup {n} {ds : List D} : (∀ d ∈ ds, Lay n d) → Lay (n + 1) (.tup ds)
  | wt {n} {ds : List D} : (∀ d ∈ ds, Lay n d) → Lay (n + 1) (.wt ds)
  | ptup {n} {ds : List D} : (∀ d ∈ ds, Lay n d) → Lay (n + 1) (.ptup ds)
  | lst {n} {ds : List D} : (∀ d ∈ ds, Lay n d) → Lay (n + 1) (.lst ds)
theorem canLayAll_of : ∀ {ds : List D}, (∀ d ∈ ds, d.py.canLay0 = true) → PyData.canLayAll0 (pyL ds) = true
  | [], _ => rfl
  | d :: ds, h => by
    show (d.py.canLay0 && PyData.canLayAll0 (pyL ds)) = true
    rw [h d List.mem_cons_self, canLayAll_of fun e he => h e (List.mem_cons_of_mem _ he)]; rfl
theorem depthAll_of {n : Nat} : ∀ {ds : List D}, (∀ d ∈ ds, d.py.depth ≤ n) → PyData.depthAll (pyL ds) ≤ n
  | [], _ => Nat.zero_le _
  | d :: ds, h => by
    show max d.py.depth (PyData.depthAll (pyL ds)) ≤ n
    exact Nat.max_le.mpr ⟨h d List.mem_cons_self, depthAll_of fun e he => h e (List.mem_cons_of_mem _ he)⟩
theorem Lay.ok {n : Nat} {d : D} (h : Lay n d) : d.py.canLay0 = true ∧ d.py.depth ≤ n + 1 := by
  induction h with
  | non => exact ⟨rfl, by simp [D.py, PyData.depth]⟩
  | bl b => exact ⟨rfl, by simp [D.py, PyData.depth]⟩
  | int b => exact ⟨rfl, by simp [D.py, PyData.depth]⟩
  | str x h => exact ⟨h, by simp [D.py, PyData.depth]⟩
  | tup h ih =>
    refine ⟨canLayAll_of fun d hd => (ih d hd).1, ?_⟩
    have z := depthAll_of fun d hd => (ih d hd).2
    show PyData.depth (.tuple (pyL _)) ≤ _
    simp only [PyData.depth]
    omega
  | wt h ih =>
    refine ⟨canLayAll_of fun d hd => (ih d hd).1, ?_⟩
    have z := depthAll_of fun d hd => (ih d hd).2
    show PyData.depth (.tuple (pyL _)) ≤ _
    simp only [PyData.depth]
    omega
  | ptup h ih =>
    refine ⟨canLayAll_of fun d hd => (ih d hd).1, ?_⟩
    have z := depthAll_of fun d hd => (ih d hd).2
    show PyData.depth (.tuple (pyL _)) ≤ _
    simp only [PyData.depth]
    omega
  | lst h ih =>
    refine ⟨canLayAll_of fun d hd => (ih d hd).1, ?_⟩
    have z := depthAll_of fun d hd => (ih d hd).2
    show PyData.depth (.list (pyL _)) ≤ _
    simp only [PyData.depth]
    omega
theorem Lay.mono {n m : Nat} {d : D} (h : Lay n d) (hm : n ≤ m) : Lay m d := by
  induction h generalizing m with
  | non => exact .non
  | bl b => exact .bl b
  | int b => exact .int b
  | str x h => exact .str x h
  | tup h ih => obtain ⟨k, rfl⟩ : ∃ k, m = k + 1 := ⟨m - 1, by omega⟩; exact .tup fun d hd => ih d hd (by omega)
  | wt h ih => obtain ⟨k, rfl⟩ : ∃ k, m = k + 1 := ⟨m - 1, by omega⟩; exact .wt fun d hd => ih d hd (by omega)
  | ptup h ih => obtain ⟨k, rfl⟩ : ∃ k, m = k + 1 := ⟨m - 1, by omega⟩; exact .ptup fun d hd => ih d hd (by omega)
  | lst h ih => obtain ⟨k, rfl⟩ : ∃ k, m = k + 1 := ⟨m - 1, by omega⟩; exact .lst fun d hd => ih d hd (by omega)
/-- told apart by == -/
def okD (d : D) : Prop := SeqAt.shaped d.py = true
theorem Lay.shaped {n : Nat} {d : D} (h : Lay n d) (hn : n ≤ 60) : okD d := by
  obtain ⟨h1, h2⟩ := h.ok
  show (d.py.canLay0 && decide (d.py.depth ≤ 64)) = true
  rw [h1, decide_eq_true (by omega)]; rfl

/-! ### binary operators -/
structure BinD (X : Cx) (op : Operator) (o : Own) (a b d : D) : Prop where
  ex : ∃ r, OpR X (binaryOp op) r ∧ OpD X.K r o a b d
structure CmpD (X : Cx) (op : CmpOp) (o : Own) (a b d : D) : Prop where
  ex : ∃ r, OpR X (compareOp op) r ∧ OpD X.K r o a b d
section
variable {X : Cx} {γ : Sto} {o o1 o2 o3 : Own} {a b c : Expr} {d d1 d2 d3 : D} {pos : Pos}
theorem re_bin {op : Operator} (ha : RE X a γ o d1 o1) (hb : RE X b γ o1 d2 o2) (h : BinD X op o2 d1 d2 d) : RE X (.BinOp a op b pos) γ o d o2 := by
  obtain ⟨r, h1, h2⟩ := h.ex
  exact re_op h1 ha hb h2
theorem re_cm {op : CmpOp} (ha : RE X a γ o d1 o1) (hb : RE X b γ o1 d2 o2) (h : CmpD X op o2 d1 d2 d) (hm : behindInMarks op b = false) : RE X (.Compare a [op] [b] pos) γ o d o2 := by
  obtain ⟨r, h1, h2⟩ := h.ex
  exact re_cmp h1 hm ha hb h2
theorem rt_cm {op : CmpOp} {k : Bool} (ha : RE X a γ o d1 o1) (hb : RE X b γ o1 d2 o2) (h : CmpD X op o2 d1 d2 (.bl k)) (hm : behindInMarks op b = false) : RT X (.Compare a [op] [b] pos) γ o k o2 := by
  obtain ⟨r, h1, h2⟩ := h.ex
  exact rt_cmp h1 hm ha hb h2
theorem re_ch {op op' : CmpOp} {k : Bool} (ha : RE X a γ o d1 o1) (hb : RE X b γ o1 d2 o2) (h : CmpD X op o2 d1 d2 (.bl k)) (hc : RE X c γ o2 d3 o3) (h' : CmpD X op' o3 d2 d3 d) (hk : k = true)
    (hm : lastMarks [op, op'] [b, c] = false := by rfl) : RE X (.Compare a [op, op'] [b, c] pos) γ o d o3 := by
  obtain ⟨r, h1, h2⟩ := h.ex
  obtain ⟨r', h3, h4⟩ := h'.ex
  exact re_chain h1 h3 ha hb h2 hc h4 hk hm
theorem re_chF {op op' : CmpOp} {k : Bool} {d' : D} (ha : RE X a γ o d1 o1) (hb : RE X b γ o1 d2 o2) (h : CmpD X op o2 d1 d2 (.bl k)) (h' : CmpD X op' o2 d2 d3 d') (hk : k = false)
    (hm : lastMarks [op, op'] [b, c] = false := by rfl) : RE X (.Compare a [op, op'] [b, c] pos) γ o (.bl false) o2 := by
  obtain ⟨r, h1, h2⟩ := h.ex
  obtain ⟨r', h3, h4⟩ := h'.ex
  exact re_chainF h1 h3 ha hb h2 pe_any hk hm
/-- a <= b <= c of whole numbers -/
theorem re_ch2 {op op' : CmpOp} {k l : Bool} (ha : RE X a γ o d1 o) (hb : RE X b γ o d2 o) (h : CmpD X op o d1 d2 (.bl k)) (hc : RE X c γ o d3 o) (h' : CmpD X op' o d2 d3 (.bl l))
    (hm : lastMarks [op, op'] [b, c] = false := by rfl) : RE X (.Compare a [op, op'] [b, c] pos) γ o (.bl (k && l)) o := by
  cases k with
  | true => exact re_ch ha hb h hc h' rfl hm
  | false => exact re_chF ha hb h h' rfl hm

theorem bin_addI {i j : Int} : BinD X .Add o (.int i) (.int j) (.int (i + j)) := ⟨_, op_add, fun Hb F H x y Q w hx hy q => by cases hx; cases hy; exact ⟨i, j, rfl, rfl, q _ Hb H (Ex.refl _) w (.int _)⟩⟩
theorem bin_subI {i j : Int} : BinD X .Sub o (.int i) (.int j) (.int (i - j)) := ⟨_, op_sub, fun Hb F H x y Q w hx hy q => by cases hx; cases hy; exact ⟨i, j, rfl, rfl, q _ Hb H (Ex.refl _) w (.int _)⟩⟩
theorem bin_mulI {i j : Int} (h : CMul i j) : BinD X .Mult o (.int i) (.int j) (.int (i * j)) := ⟨_, op_mul, fun Hb F H x y Q w hx hy q => by cases hx; cases hy; exact ⟨i, j, rfl, rfl, h, q _ Hb H (Ex.refl _) w (.int _)⟩⟩
theorem bin_modI {i j : Int} (h : 0 < j) : BinD X .Mod o (.int i) (.int j) (.int (i % j)) := ⟨_, op_mod, fun Hb F H x y Q w hx hy q => by cases hx; cases hy; exact ⟨i, j, rfl, rfl, h, q _ Hb H (Ex.refl _) w (.int _)⟩⟩
theorem bin_divW {i j : Int} (h : CDivW i j) : BinD X .FloorDiv o (.int i) (.int j) (.int (i / j)) := ⟨_, op_fdivW, fun Hb F H x y Q w hx hy q => by cases hx; cases hy; exact ⟨i, j, rfl, rfl, h, q _ Hb H (Ex.refl _) w (.int _)⟩⟩
theorem bin_pow {i j : Int} (h : CPow i j) : BinD X .Pow o (.int i) (.int j) (.int (i ^ j.toNat)) := ⟨_, op_pow, fun Hb F H x y Q w hx hy q => by cases hx; cases hy; exact ⟨i, j, rfl, rfl, h, q _ Hb H (Ex.refl _) w (.int _)⟩⟩
theorem bin_addT {as bs : List D} (h : as.length + bs.length ≤ 100000) : BinD X .Add o (.tup as) (.tup bs) (.tup (as ++ bs)) := ⟨_, op_catA, fun Hb F H x y Q w hx hy q => by
  cases hx with
  | tup h1 l1 =>
    cases hy with
    | tup h2 l2 =>
      refine ⟨_, _, _, _, rfl, rfl, SqT.of (w.b _ _ h1), SqT.of (w.b _ _ h2), by rw [l1.len, l2.len]; exact Nat.le_trans h (by decide), fun e => ?_, fun e e2 => ?_, fun e e2 p hp => ?_⟩
      · subst e
        cases l1
        exact q _ Hb H (Ex.refl _) w (.tup h2 l2)
      · subst e2
        cases l2
        rw [List.append_nil] at q
        exact q _ Hb H (Ex.refl _) w (.tup h1 l1)
      · obtain ⟨w2, e2⟩ := w.new (u := .tup _) hp
        exact q _ _ _ e2 w2 (.tup upd_same ((l1.append l2).mono e2))⟩
theorem bin_addL {as bs : List D} (h : as.length + bs.length ≤ 100000) : BinD X .Add o (.lst as) (.lst bs) (.lst (as ++ bs)) := ⟨_, op_cat, fun Hb F H x y Q w hx hy q => by
  cases hx with
  | lst h1 l1 =>
    cases hy with
    | lst h2 l2 =>
      refine ⟨_, _, _, _, rfl, rfl, w.b _ _ h1, w.b _ _ h2, by rw [l1.len, l2.len]; exact Nat.le_trans h (by decide), fun p hp => ?_⟩
      obtain ⟨w2, e2⟩ := w.new (u := .lst _) hp
      exact q _ _ _ e2 w2 (.lst upd_same ((l1.append l2).mono e2))⟩

/-! ### comparisons -/
theorem cmp_ltI {i j : Int} : CmpD X .Lt o (.int i) (.int j) (.bl (decide (i < j))) := ⟨_, op_lt, fun Hb F H x y Q w hx hy q => by cases hx; cases hy; exact ⟨i, j, rfl, rfl, q _ Hb H (Ex.refl _) w (.bl _)⟩⟩
theorem cmp_leI {i j : Int} : CmpD X .LtE o (.int i) (.int j) (.bl (decide (i ≤ j))) := ⟨_, op_le, fun Hb F H x y Q w hx hy q => by cases hx; cases hy; exact ⟨i, j, rfl, rfl, q _ Hb H (Ex.refl _) w (.bl _)⟩⟩
theorem cmp_gtI {i j : Int} : CmpD X .Gt o (.int i) (.int j) (.bl (decide (j < i))) := ⟨_, op_gt, fun Hb F H x y Q w hx hy q => by cases hx; cases hy; exact ⟨i, j, rfl, rfl, q _ Hb H (Ex.refl _) w (.bl _)⟩⟩
theorem cmp_geI {i j : Int} : CmpD X .GtE o (.int i) (.int j) (.bl (decide (j ≤ i))) := ⟨_, op_ge, fun Hb F H x y Q w hx hy q => by cases hx; cases hy; exact ⟨i, j, rfl, rfl, q _ Hb H (Ex.refl _) w (.bl _)⟩⟩
theorem cmp_eqI {i j : Int} : CmpD X .Eq o (.int i) (.int j) (.bl (decide (i = j))) := ⟨_, op_eq, fun Hb F H x y Q w hx hy q => by
  cases hx; cases hy
  have e : decide (V.int i = V.int j) = decide (i = j) := by simp
  exact ⟨rfl, q _ Hb H (Ex.refl _) w (e ▸ .bl _)⟩⟩
theorem cmp_neI {i j : Int} : CmpD X .NotEq o (.int i) (.int j) (.bl (!decide (i = j))) := ⟨_, op_ne, fun Hb F H x y Q w hx hy q => by
  cases hx; cases hy
  have e : decide (V.int i = V.int j) = decide (i = j) := by simp
  exact ⟨rfl, q _ Hb H (Ex.refl _) w (e ▸ .bl _)⟩⟩
theorem cmp_eqS {i j : Str} : CmpD X .Eq o (.str i) (.str j) (.bl (decide (i = j))) := ⟨_, op_eq, fun Hb F H x y Q w hx hy q => by
  cases hx; cases hy
  have e : decide (V.str i = V.str j) = decide (i = j) := by simp
  exact ⟨rfl, q _ Hb H (Ex.refl _) w (e ▸ .bl _)⟩⟩
theorem cmp_neS {i j : Str} : CmpD X .NotEq o (.str i) (.str j) (.bl (!decide (i = j))) := ⟨_, op_ne, fun Hb F H x y Q w hx hy q => by
  cases hx; cases hy
  have e : decide (V.str i = V.str j) = decide (i = j) := by simp
  exact ⟨rfl, q _ Hb H (Ex.refl _) w (e ▸ .bl _)⟩⟩
theorem cmp_eqB {i j : Bool} : CmpD X .Eq o (.bl i) (.bl j) (.bl (decide (i = j))) := ⟨_, op_eq, fun Hb F H x y Q w hx hy q => by
  cases hx; cases hy
  have e : decide (V.bl i = V.bl j) = decide (i = j) := by simp
  exact ⟨rfl, q _ Hb H (Ex.refl _) w (e ▸ .bl _)⟩⟩
theorem cmp_neB {i j : Bool} : CmpD X .NotEq o (.bl i) (.bl j) (.bl (!decide (i = j))) := ⟨_, op_ne, fun Hb F H x y Q w hx hy q => by
  cases hx; cases hy
  have e : decide (V.bl i = V.bl j) = decide (i = j) := by simp
  exact ⟨rfl, q _ Hb H (Ex.refl _) w (e ▸ .bl _)⟩⟩
/-- == at any depth -/
theorem cmp_eqD (hu : X.A.units + 64 < cLine) (h1 : okD d1) (h2 : okD d2) : CmpD X .Eq o d1 d2 (.bl (eqD d1 d2)) := ⟨_, op_eqD hu, fun Hb F H x y Q w hx hy q =>
  ⟨_, _, (hx.mono w.b).dp (SeqAt.canLay_of_shaped h1), (hy.mono w.b).dp (SeqAt.canLay_of_shaped h2), h1, h2, q _ Hb H (Ex.refl _) w (.bl _)⟩⟩
theorem cmp_neD (hu : X.A.units + 64 < cLine) (h1 : okD d1) (h2 : okD d2) : CmpD X .NotEq o d1 d2 (.bl (!eqD d1 d2)) := ⟨_, op_neD hu, fun Hb F H x y Q w hx hy q =>
  ⟨_, _, (hx.mono w.b).dp (SeqAt.canLay_of_shaped h1), (hy.mono w.b).dp (SeqAt.canLay_of_shaped h2), h1, h2, q _ Hb H (Ex.refl _) w (.bl _)⟩⟩
/-- x is None, x is not None -/
theorem cmp_isN {k : Bool} (h : ∀ v Hb, Den X.K Hb v d1 → decide (v = V.non) = k) : CmpD X .Is o d1 .non (.bl k) := ⟨_, op_isN, fun Hb F H x y Q w hx hy q => by
  cases hy
  exact ⟨rfl, q _ Hb H (Ex.refl _) w (by rw [h x Hb hx]; exact .bl _)⟩⟩
theorem cmp_notN {k : Bool} (h : ∀ v Hb, Den X.K Hb v d1 → decide (v = V.non) = k) : CmpD X .IsNot o d1 .non (.bl (!k)) := ⟨_, op_notN, fun Hb F H x y Q w hx hy q => by
  cases hy
  exact ⟨rfl, q _ Hb H (Ex.refl _) w (by rw [h x Hb hx]; exact .bl _)⟩⟩
def D.isNon : D → Bool
  | .non => true
  | _ => false
theorem den_isNon {K : PySem.W.Frag} {H : Hp} {v : V} : ∀ {d : D}, Den K H v d → decide (v = V.non) = d.isNon
  | _, .non => by simp [D.isNon]
  | _, .bl b => by simp [D.isNon]
  | _, .int b => by simp [D.isNon]
  | _, .str b => by simp [D.isNon]
  | _, .ty b => by simp [D.isNon]
  | _, .adr b => by simp [D.isNon]
  | _, .tup _ _ => by simp [D.isNon]
  | _, .wt _ _ => by simp [D.isNon]
  | _, .ptup _ _ _ _ => by simp [D.isNon]
  | _, .lst _ _ => by simp [D.isNon]
  | _, .sl _ _ => by simp [D.isNon]
  | _, .dT _ _ => by simp [D.isNon]
  | _, .dK _ _ => by simp [D.isNon]
theorem cmp_isN' : CmpD X .Is o d1 .non (.bl d1.isNon) := cmp_isN fun v Hb h => den_isNon h
theorem cmp_notN' : CmpD X .IsNot o d1 .non (.bl (!d1.isNon)) := cmp_notN fun v Hb h => den_isNon h
/-- x in a list, a tuple, of data of any depth -/
def rInT (K : PySem.W.Frag) (neg : Bool) : R2 := fun x y H Q => ∃ d ds, Dp K H x d ∧ (Dp K H y (.tuple ds) ∨ Dp K H y (.list ds)) ∧ SeqAt.shaped d = true ∧ PyData.canLayAll0 ds = true ∧ Q (.bl (if neg then !(ds.any fun z => PyData.eqv z d) else ds.any fun z => PyData.eqv z d)) H
theorem op_inT (hu : X.A.units + 65 < cLine) : OpR X (compareOp .In) (rInT X.K false) := by
  intro pins s σ H x y v u Q I rx ry h
  obtain ⟨d, ds, hd, he, sd, se, q⟩ := h
  obtain ⟨as, r1⟩ := Dp.reads I d x v hd rx
  rcases he with he | he
  · obtain ⟨bs, r2⟩ := Dp.reads I (.tuple ds) y u he ry
    exact SeqAt.in_tuple_reads r2 r1 se (SeqAt.canLay_of_shaped sd) (room_in_shaped sd hu) ⟨.bl _, H, I, rfl, q⟩
  · obtain ⟨bs, r2⟩ := Dp.reads I (.list ds) y u he ry
    exact SeqAt.in_list_reads r2 r1 se (SeqAt.canLay_of_shaped sd) (room_in_shaped sd hu) ⟨.bl _, H, I, rfl, q⟩
theorem op_ninT (hu : X.A.units + 65 < cLine) : OpR X (compareOp .NotIn) (rInT X.K true) := by
  intro pins s σ H x y v u Q I rx ry h
  obtain ⟨d, ds, hd, he, sd, se, q⟩ := h
  obtain ⟨as, r1⟩ := Dp.reads I d x v hd rx
  rcases he with he | he
  · obtain ⟨bs, r2⟩ := Dp.reads I (.tuple ds) y u he ry
    exact SeqAt.notIn_tuple_reads r2 r1 se (SeqAt.canLay_of_shaped sd) (room_in_shaped sd hu) ⟨.bl _, H, I, rfl, q⟩
  · obtain ⟨bs, r2⟩ := Dp.reads I (.list ds) y u he ry
    exact SeqAt.notIn_list_reads r2 r1 se (SeqAt.canLay_of_shaped sd) (room_in_shaped sd hu) ⟨.bl _, H, I, rfl, q⟩
def inD (d : D) (ds : List D) : Bool := ds.any fun z => eqD z d
theorem any_py (d : D) (ds : List D) : ((pyL ds).any fun z => PyData.eqv z d.py) = inD d ds := by
  rw [pyL_map, List.any_map]; rfl
/-- what may stand to the right of in -/
inductive Many : D → List D → Prop
  | tup {ds} : Many (.tup ds) ds
  | wt {ds} : Many (.wt ds) ds
  | ptup {ds} : Many (.ptup ds) ds
  | lst {ds} : Many (.lst ds) ds
  | sl {ds} : Many (.sl ds) ds
theorem Many.dp {K : PySem.W.Frag} {H : Hp} {v : V} {d : D} {ds : List D} (m : Many d ds) (h : Den K H v d) (q : PyData.canLayAll0 (pyL ds) = true) : Dp K H v (.tuple (pyL ds)) ∨ Dp K H v (.list (pyL ds)) := by
  cases m with
  | tup => exact .inl (h.dp q)
  | wt => exact .inl (h.dp q)
  | ptup => exact .inl (h.dp q)
  | lst => exact .inr (h.dp q)
  | sl => exact .inr (h.dp q)
theorem cmp_in {ds : List D} {k : Bool} (hu : X.A.units + 65 < cLine) (m : Many d2 ds) (h1 : okD d1) (h2 : ∀ e ∈ ds, okD e) (hk : inD d1 ds = k) : CmpD X .In o d1 d2 (.bl k) := ⟨_, op_inT hu, fun Hb F H x y Q w hx hy q => by
  have hl : PyData.canLayAll0 (pyL ds) = true := canLayAll_of fun e he => SeqAt.canLay_of_shaped (h2 e he)
  refine ⟨_, _, (hx.mono w.b).dp (SeqAt.canLay_of_shaped h1), m.dp (hy.mono w.b) hl, h1, hl, ?_⟩
  show Q (.bl ((pyL ds).any fun z => PyData.eqv z d1.py)) H
  rw [any_py, hk]
  exact q _ Hb H (Ex.refl _) w (.bl _)⟩
theorem cmp_nin {ds : List D} {k : Bool} (hu : X.A.units + 65 < cLine) (m : Many d2 ds) (h1 : okD d1) (h2 : ∀ e ∈ ds, okD e) (hk : inD d1 ds = k) : CmpD X .NotIn o d1 d2 (.bl (!k)) := ⟨_, op_ninT hu, fun Hb F H x y Q w hx hy q => by
  have hl : PyData.canLayAll0 (pyL ds) = true := canLayAll_of fun e he => SeqAt.canLay_of_shaped (h2 e he)
  refine ⟨_, _, (hx.mono w.b).dp (SeqAt.canLay_of_shaped h1), m.dp (hy.mono w.b) hl, h1, hl, ?_⟩
  show Q (.bl (!((pyL ds).any fun z => PyData.eqv z d1.py))) H
  rw [any_py, hk]
  exact q _ Hb H (Ex.refl _) w (.bl _)⟩
end
end J
end

section
set_option Elab.async false
set_option linter.all false
set_option maxRecDepth 100000
namespace J
open PySem PySem.Spec PyProof.Rows L2

/-! ### places -/
structure IxD (X : Cx) (o : Own) (a b d : D) : Prop where
  ex : ∃ r, IxR X r ∧ OpD X.K r o a b d
section
variable {X : Cx} {γ : Sto} {o o1 o2 o3 : Own} {a b c e : Expr} {d d1 d2 d3 : D} {pos : Pos}
theorem re_sub (ha : RE X a γ o d1 o1) (hb : RE X b γ o1 d2 o2) (h : IxD X o2 d1 d2 d) (hs : PlainIx b := by exact fun _ _ => rfl) : RE X (.Subscript a b pos) γ o d o2 := by
  obtain ⟨r, h1, h2⟩ := h.ex
  exact re_ix h1 ha hb h2 hs
theorem DenL.atI {K : PySem.W.Frag} {H : Hp} {vs : List V} {ds : List D} {i : Int} (l : DenL K H vs ds) (h : atI ds i = some d) : ∃ v, L2.atI vs i = some v ∧ Den K H v d := by
  unfold L2.atI at h ⊢
  rw [l.len]
  cases e : ixN ds.length i with
  | none => rw [e] at h; cases h
  | some j =>
    rw [e] at h
    exact l.get h
theorem ix_tupD {ds : List D} {i : Int} (h : atI ds i = some d) : IxD X o (.tup ds) (.int i) d := ⟨_, ix_tup, fun Hb F H x y Q w hx hy q => by
  cases hx with
  | tup h1 l =>
    cases hy
    obtain ⟨v, e, n⟩ := l.atI h
    exact ⟨_, _, i, v, rfl, rfl, SqT.of (w.b _ _ h1), e, q v Hb H (Ex.refl _) w n⟩⟩
theorem ix_wtD {ds : List D} {i : Int} (h : atI ds i = some d) : IxD X o (.wt ds) (.int i) d := ⟨_, ix_tup, fun Hb F H x y Q w hx hy q => by
  cases hx with
  | wt h1 l =>
    cases hy
    obtain ⟨v, e, n⟩ := l.atI h
    exact ⟨_, _, i, v, rfl, rfl, w.b.sqt h1, e, q v Hb H (Ex.refl _) w n⟩⟩
theorem ix_lstD {ds : List D} {i : Int} (h : atI ds i = some d) : IxD X o (.lst ds) (.int i) d := ⟨_, ix_list, fun Hb F H x y Q w hx hy q => by
  cases hx with
  | lst h1 l =>
    cases hy
    obtain ⟨v, e, n⟩ := l.atI h
    exact ⟨_, _, i, v, rfl, rfl, SqL.of (w.b _ _ h1), e, q v Hb H (Ex.refl _) w n⟩⟩
theorem ix_slD {ds : List D} {i : Int} (h : atI ds i = some d) : IxD X o (.sl ds) (.int i) d := ⟨_, ix_list, fun Hb F H x y Q w hx hy q => by
  cases hx with
  | sl h1 l =>
    cases hy
    obtain ⟨v, e, n⟩ := l.atI h
    exact ⟨_, _, i, v, rfl, rfl, w.b.sql h1, e, q v Hb H (Ex.refl _) w n⟩⟩
theorem atI_mk {α : Type} {ds : List α} {j : Nat} {d : α} (h : ds[j]? = some d) : atI ds (j : Int) = some d := atI_nat h

/-! ### slices -/
def tO (K : PySem.W.Frag) (γ : Sto) (o : Own) (i : Option Int) (o' : Own) : TO := fun σ H Q => ∃ Hb F, Wd K Hb F o H ∧ Stt K Hb γ σ ∧ ∀ Hb' H', Ex Hb Hb' → Wd K Hb' F o' H' → Q i H'
structure RO (X : Cx) (e : Option Expr) (γ : Sto) (o : Own) (i : Option Int) (o' : Own) : Prop where
  p : PO X e (tO X.K γ o i o')
theorem PO.imp {X : Cx} {e : Option Expr} {t t' : TO} (h : PO X e t) (i : ∀ σ H Q, t' σ H Q → t σ H Q) : PO X e t' := ⟨fun pins s σ H Q I q => h.run pins s σ H Q I (i σ H Q q)⟩
theorem ro_none : RO X none γ o none o := ⟨PO.imp po_none fun σ H Q ⟨Hb, F, w, s, q⟩ => q Hb H (Ex.refl _) w⟩
theorem ro_some {i : Int} (h : RE X e γ o (.int i) o1) : RO X (some e) γ o (some i) o1 :=
  ⟨PO.imp (po_some h.p) fun σ H Q ⟨Hb, F, w, s, q⟩ => ⟨Hb, F, w, s, fun v Hb1 H1 e1 w1 n1 => by cases n1; exact ⟨i, rfl, q Hb1 H1 e1 w1⟩⟩⟩
def cutD (xs : List D) (lo hi : Option Int) : List D := (xs.drop (HT.sIx xs.length 0 lo)).take (HT.sIx xs.length xs.length hi - HT.sIx xs.length 0 lo)
theorem DenL.cut {K : PySem.W.Frag} {H : Hp} {vs : List V} {ds : List D} (l : DenL K H vs ds) (lo hi : Option Int) : DenL K H (cutV vs lo hi) (cutD ds lo hi) := by
  unfold cutV cutD
  rw [l.len]
  exact (l.drop _).take _
theorem cutD_len (xs : List D) (lo hi : Option Int) : (cutD xs lo hi).length ≤ xs.length := by
  unfold cutD
  rw [List.length_take, List.length_drop]
  omega
/-- t[lo:hi] -/
theorem re_slT {lo hi : Option Expr} {p2 : Pos} {ds : List D} {i j : Option Int} (ha : RE X e γ o (.tup ds) o1) (hl : RO X lo γ o1 i o2) (hh : RO X hi γ o2 j o3) : RE X (.Subscript e (.Slice lo hi none p2) pos) γ o (.tup (cutD ds i j)) o3 :=
  ⟨PE.imp (pe_slice sl_tupA ha.p hl.p hh.p) fun σ H Q ⟨Hb, F, w, s, q⟩ => ⟨Hb, F, w, s, fun x Hb1 H1 e1 w1 n1 => ⟨Hb1, F, w1, s.mono e1, fun Hb2 H2 e2 w2 => ⟨Hb2, F, w2, s.mono (e1.trans e2), fun Hb3 H3 e3 w3 => by
    cases n1 with
    | tup h1 l =>
      have h3 := (e2.trans e3) _ _ h1
      have l3 := l.mono (e2.trans e3)
      refine ⟨_, _, rfl, SqT.of (w3.b _ _ h3), fun z => ?_, fun z p hp => ?_⟩
      · have ce : cutD ds i j = ds := by
          rw [l.len] at z
          unfold cutD
          rw [z.1, z.2, List.drop_zero, Nat.sub_zero, List.take_length]
        rw [ce] at q
        exact q _ Hb3 H3 (e1.trans (e2.trans e3)) w3 (.tup h3 l3)
      · obtain ⟨w4, e4⟩ := w3.new (u := .tup (cutV _ i j)) hp
        exact q _ _ _ (e1.trans ((e2.trans e3).trans e4)) w4 (.tup upd_same ((l3.cut i j).mono e4))⟩⟩⟩⟩
/-- xs[lo:hi] -/
theorem re_slL {lo hi : Option Expr} {p2 : Pos} {ds : List D} {i j : Option Int} (ha : RE X e γ o (.lst ds) o1) (hl : RO X lo γ o1 i o2) (hh : RO X hi γ o2 j o3) : RE X (.Subscript e (.Slice lo hi none p2) pos) γ o (.lst (cutD ds i j)) o3 :=
  ⟨PE.imp (pe_slice sl_list ha.p hl.p hh.p) fun σ H Q ⟨Hb, F, w, s, q⟩ => ⟨Hb, F, w, s, fun x Hb1 H1 e1 w1 n1 => ⟨Hb1, F, w1, s.mono e1, fun Hb2 H2 e2 w2 => ⟨Hb2, F, w2, s.mono (e1.trans e2), fun Hb3 H3 e3 w3 => by
    cases n1 with
    | lst h1 l =>
      have h3 := (e2.trans e3) _ _ h1
      have l3 := l.mono (e2.trans e3)
      refine ⟨_, _, rfl, SqL.of (w3.b _ _ h3), fun p hp => ?_⟩
      obtain ⟨w4, e4⟩ := w3.new (u := .lst (cutV _ i j)) hp
      exact q _ _ _ (e1.trans ((e2.trans e3).trans e4)) w4 (.lst upd_same ((l3.cut i j).mono e4))⟩⟩⟩⟩

/-! ### dicts that are read -/
def keyD : Key → D
  | .inl i => .int i
  | .inr x => .str x
def valD {κ : Type} [DecidableEq κ] (kvs : List (κ × D)) (k : κ) : Option D := (kvs.find? fun kv => decide (kv.1 = k)).map (·.2)
inductive DenO (K : PySem.W.Frag) (H : Hp) : Option V → Option D → Prop
  | none : DenO K H none none
  | some {v : V} {d : D} : Den K H v d → DenO K H (some v) (some d)
theorem DenT.val {K : PySem.W.Frag} {H : Hp} (k : List Key) : ∀ {ws : List (List Key × V)} {kvs : List (List Key × D)}, DenT K H ws kvs → DenO K H (valV ws k) (valD kvs k)
  | _, _, .nil => .none
  | _, _, .cons (k := k') (v := v) (d := d) (ws := ws) (kvs := kvs) h l => by
    by_cases c : k' = k
    · have e1 : valV ((k', v) :: ws) k = some v := valV_pos c
      have e2 : valD ((k', d) :: kvs) k = some d := by unfold valD; rw [List.find?_cons_of_pos (by simpa using c)]; rfl
      rw [e1, e2]; exact .some h
    · have e1 : valV ((k', v) :: ws) k = valV ws k := valV_neg c
      have e2 : valD ((k', d) :: kvs) k = valD kvs k := by unfold valD; rw [List.find?_cons_of_neg (by simpa using c)]
      rw [e1, e2]; exact DenT.val k l
theorem DenK.val {K : PySem.W.Frag} {H : Hp} (k : Key) : ∀ {ws : List (Key × V)} {kvs : List (Key × D)}, DenK K H ws kvs → DenO K H (valV ws k) (valD kvs k)
  | _, _, .nil => .none
  | _, _, .cons (k := k') (v := v) (d := d) (ws := ws) (kvs := kvs) h l => by
    by_cases c : k' = k
    · have e1 : valV ((k', v) :: ws) k = some v := valV_pos c
      have e2 : valD ((k', d) :: kvs) k = some d := by unfold valD; rw [List.find?_cons_of_pos (by simpa using c)]; rfl
      rw [e1, e2]; exact .some h
    · have e1 : valV ((k', v) :: ws) k = valV ws k := valV_neg c
      have e2 : valD ((k', d) :: kvs) k = valD kvs k := by unfold valD; rw [List.find?_cons_of_neg (by simpa using c)]
      rw [e1, e2]; exact DenK.val k l
theorem DenL.keys {K : PySem.W.Frag} {H : Hp} : ∀ {vs : List V} {ks : List Key}, DenL K H vs (ks.map keyD) → vs = ks.map kV
  | _, [], .nil => rfl
  | _, .inl i :: r, .cons h l => by cases h; rw [DenL.keys l]; rfl
  | _, .inr i :: r, .cons h l => by cases h; rw [DenL.keys l]; rfl
/-- what the dict d holds at the key k: r -/
structure Gets (K : PySem.W.Frag) (o : Own) (d k : D) (r : Option D) : Prop where
  t : ∀ (Hb F H : Hp) (x y : V), Wd K Hb F o H → Den K Hb x d → Den K Hb y k → ∃ a ov, x = .ref a ∧ DGet H a y ov ∧ DenO K Hb ov r
/-- d is a dict -/
structure IsDc (K : PySem.W.Frag) (o : Own) (d : D) : Prop where
  t : ∀ (Hb F H : Hp) (x : V), Wd K Hb F o H → Den K Hb x d → ∃ a, x = .ref a ∧ IsD H a
theorem gets_T {K : PySem.W.Frag} {kvs : List (List Key × D)} {ks : List Key} : Gets K o (.dT kvs) (.tup (ks.map keyD)) (valD kvs ks) := ⟨fun Hb F H x y w hx hy => by
  cases hx with
  | dT h1 l =>
    cases hy with
    | tup h2 l2 =>
      have e := l2.keys
      subst e
      exact ⟨_, _, rfl, .inr ⟨_, ks, _, .inr ⟨_, w.b _ _ h1⟩, rfl, w.b _ _ h2, rfl⟩, l.val ks⟩⟩
theorem gets_K {K : PySem.W.Frag} {kvs : List (Key × D)} {k : Key} : Gets K o (.dK kvs) (keyD k) (valD kvs k) := ⟨fun Hb F H x y w hx hy => by
  cases hx with
  | dK h1 l =>
    have e : y = kV k := by
      cases k with
      | inl i => cases hy; rfl
      | inr i => cases hy; rfl
    subst e
    exact ⟨_, _, rfl, .inl ⟨_, k, .inr ⟨_, w.b _ _ h1⟩, rfl, rfl⟩, l.val k⟩⟩
theorem gets_oT {K : PySem.W.Frag} {p : Addr} {kvs : List (List Key × D)} {ks : List Key} (hp : (p, D.dT kvs) ∈ o) : Gets K o (.adr p) (.tup (ks.map keyD)) (valD kvs ks) := ⟨fun Hb F H x y w hx hy => by
  cases hx
  obtain ⟨ws, h1, l⟩ := (w.own _ hp).2.2
  cases hy with
  | tup h2 l2 =>
    have e := l2.keys
    subst e
    exact ⟨_, _, rfl, DGet.t h1 (w.b _ _ h2), l.val ks⟩⟩
theorem gets_oK {K : PySem.W.Frag} {p : Addr} {kvs : List (Key × D)} {k : Key} (hp : (p, D.dK kvs) ∈ o) : Gets K o (.adr p) (keyD k) (valD kvs k) := ⟨fun Hb F H x y w hx hy => by
  cases hx
  obtain ⟨ws, h1, l⟩ := (w.own _ hp).2.2
  have e : y = kV k := by
    cases k with
    | inl i => cases hy; rfl
    | inr i => cases hy; rfl
  subst e
  exact ⟨_, _, rfl, DGet.k h1, l.val k⟩⟩
theorem isd_T {K : PySem.W.Frag} {kvs : List (List Key × D)} : IsDc K o (.dT kvs) := ⟨fun Hb F H x w hx => by
  cases hx with
  | dT h1 l => exact ⟨_, rfl, .inr ⟨_, .inr ⟨_, w.b _ _ h1⟩⟩⟩⟩
theorem isd_K {K : PySem.W.Frag} {kvs : List (Key × D)} : IsDc K o (.dK kvs) := ⟨fun Hb F H x w hx => by
  cases hx with
  | dK h1 l => exact ⟨_, rfl, .inl ⟨_, .inr ⟨_, w.b _ _ h1⟩⟩⟩⟩
theorem isd_oT {K : PySem.W.Frag} {p : Addr} {kvs : List (List Key × D)} (hp : (p, D.dT kvs) ∈ o) : IsDc K o (.adr p) := ⟨fun Hb F H x w hx => by
  cases hx
  obtain ⟨ws, h1, l⟩ := (w.own _ hp).2.2
  exact ⟨_, rfl, .inr ⟨_, .inl h1⟩⟩⟩
theorem re_dget (hu : X.A.units + 1 < cLine) (ha : RE X a γ o d1 o1) (hb : RE X b γ o1 d2 o2) (g : Gets X.K o2 d1 d2 (some d)) (hs : NoSl b := by exact fun _ _ => rfl) : RE X (.Subscript a b pos) γ o d o2 :=
  ⟨PE.imp (pe_dget hu ha.p hb.p hs) fun σ H Q ⟨Hb, F, w, s, q⟩ => ⟨Hb, F, w, s, fun x Hb1 H1 e1 w1 n1 => ⟨Hb1, F, w1, s.mono e1, fun y Hb2 H2 e2 w2 n2 => by
    obtain ⟨p, ov, rfl, h1, h2⟩ := g.t Hb2 F H2 x y w2 (n1.mono e2) n2
    cases h2 with
    | some h2 => exact ⟨p, _, rfl, h1, q _ Hb2 H2 (e1.trans e2) w2 h2⟩⟩⟩⟩
theorem PC.imp {op : CmpOp} {t t' : TE} (h : PC X op a b t) (i : ∀ σ H Q, t' σ H Q → t σ H Q) : PC X op a b t' := ⟨fun pins s σ H Q I q => h.run pins s σ H Q I (i σ H Q q)⟩
theorem pc_in {r : Option D} (hu : X.A.units + 1 < cLine) (hb : RE X a γ o d1 o1) (ha : RE X b γ o1 d2 o2) (g : Gets X.K o2 d2 d1 r) : PC X .In a b (tE X.K γ o (.bl r.isSome) o2) :=
  PC.imp (pc_din hu hb.p ha.p) fun σ H Q ⟨Hb, F, w, s, q⟩ => ⟨Hb, F, w, s, fun x Hb1 H1 e1 w1 n1 => ⟨Hb1, F, w1, s.mono e1, fun y Hb2 H2 e2 w2 n2 => by
    obtain ⟨p, ov, rfl, h1, h2⟩ := g.t Hb2 F H2 y x w2 n2 (n1.mono e2)
    refine ⟨p, ov, rfl, h1, q _ Hb2 H2 (e1.trans e2) w2 ?_⟩
    cases h2 <;> exact .bl _⟩⟩
theorem re_din {r : Option D} (hu : X.A.units + 1 < cLine) (hb : RE X a γ o d1 o1) (ha : RE X b γ o1 d2 o2) (g : Gets X.K o2 d2 d1 r) (hm : behindInMarks .In b = false := by rfl) : RE X (.Compare a [.In] [b] pos) γ o (.bl r.isSome) o2 := ⟨pe_cmp (pc_in hu hb ha g) hm⟩
theorem rt_din {r : Option D} (hu : X.A.units + 1 < cLine) (hb : RE X a γ o d1 o1) (ha : RE X b γ o1 d2 o2) (g : Gets X.K o2 d2 d1 r) (hm : behindInMarks .In b = false := by rfl) : RT X (.Compare a [.In] [b] pos) γ o r.isSome o2 :=
  ⟨PT.imp (pt_cmp (pc_in hu hb ha g) hm) fun σ H Q ⟨Hb, F, w, s, q⟩ => ⟨Hb, F, w, s, fun x Hb1 H1 e1 w1 n1 => by cases n1; exact ⟨_, rfl, q Hb1 H1 e1 w1⟩⟩⟩
theorem pc_nin {r : Option D} (hu : X.A.units + 1 < cLine) (hb : RE X a γ o d1 o1) (ha : RE X b γ o1 d2 o2) (g : Gets X.K o2 d2 d1 r) : PC X .NotIn a b (tE X.K γ o (.bl (!r.isSome)) o2) :=
  PC.imp (pc_dnotin hu hb.p ha.p) fun σ H Q ⟨Hb, F, w, s, q⟩ => ⟨Hb, F, w, s, fun x Hb1 H1 e1 w1 n1 => ⟨Hb1, F, w1, s.mono e1, fun y Hb2 H2 e2 w2 n2 => by
    obtain ⟨p, ov, rfl, h1, h2⟩ := g.t Hb2 F H2 y x w2 n2 (n1.mono e2)
    refine ⟨p, ov, rfl, h1, q _ Hb2 H2 (e1.trans e2) w2 ?_⟩
    cases h2 <;> exact .bl _⟩⟩
theorem re_dnin {r : Option D} (hu : X.A.units + 1 < cLine) (hb : RE X a γ o d1 o1) (ha : RE X b γ o1 d2 o2) (g : Gets X.K o2 d2 d1 r) (hm : behindInMarks .NotIn b = false := by rfl) : RE X (.Compare a [.NotIn] [b] pos) γ o (.bl (!r.isSome)) o2 := ⟨pe_cmp (pc_nin hu hb ha g) hm⟩
theorem rt_dnin {r : Option D} (hu : X.A.units + 1 < cLine) (hb : RE X a γ o d1 o1) (ha : RE X b γ o1 d2 o2) (g : Gets X.K o2 d2 d1 r) (hm : behindInMarks .NotIn b = false := by rfl) : RT X (.Compare a [.NotIn] [b] pos) γ o (!r.isSome) o2 :=
  ⟨PT.imp (pt_cmp (pc_nin hu hb ha g) hm) fun σ H Q ⟨Hb, F, w, s, q⟩ => ⟨Hb, F, w, s, fun x Hb1 H1 e1 w1 n1 => by cases n1; exact ⟨_, rfl, q Hb1 H1 e1 w1⟩⟩⟩
/-- d.get(k), d.get(k, e) -/
theorem re_get1 {apos cpos : Pos} {r : Option D} (hu : X.A.units + 1 < cLine) (ha : RE X a γ o d1 o1) (hb : RE X b γ o1 d2 o2) (c1 : IsDc X.K o1 d1) (g : Gets X.K o2 d1 d2 r) (m : M1 X a "get" apos b cpos := by exact ⟨rfl, rfl, rfl, rfl⟩) :
    RE X (.Call (.Attribute a "get" apos) [b] [] cpos) γ o (r.getD .non) o2 :=
  ⟨PE.imp (pe_dget1 hu ha.p hb.p m) fun σ H Q ⟨Hb, F, w, s, q⟩ => ⟨Hb, F, w, s, fun x Hb1 H1 e1 w1 n1 => by
    obtain ⟨p, rfl, hd⟩ := c1.t Hb1 F H1 x w1 n1
    refine ⟨p, rfl, hd, Hb1, F, w1, s.mono e1, fun y Hb2 H2 e2 w2 n2 => ?_⟩
    obtain ⟨p', ov, e, h1, h2⟩ := g.t Hb2 F H2 _ y w2 (n1.mono e2) n2
    cases e
    refine ⟨ov, h1, q _ Hb2 H2 (e1.trans e2) w2 ?_⟩
    cases h2 with
    | none => exact .non
    | some h => exact h⟩⟩
theorem re_get2 {apos cpos : Pos} {r : Option D} (hu : X.A.units + 1 < cLine) (ha : RE X a γ o d1 o1) (hb : RE X b γ o1 d2 o2) (hc : RE X c γ o2 d3 o3) (c1 : IsDc X.K o1 d1) (g : Gets X.K o3 d1 d2 r) (m : M2 X a "get" apos b c cpos := by exact ⟨rfl, rfl, rfl, rfl⟩) :
    RE X (.Call (.Attribute a "get" apos) [b, c] [] cpos) γ o (r.getD d3) o3 :=
  ⟨PE.imp (pe_dget2 hu ha.p hb.p hc.p m) fun σ H Q ⟨Hb, F, w, s, q⟩ => ⟨Hb, F, w, s, fun x Hb1 H1 e1 w1 n1 => by
    obtain ⟨p, rfl, hd⟩ := c1.t Hb1 F H1 x w1 n1
    refine ⟨p, rfl, hd, Hb1, F, w1, s.mono e1, fun y Hb2 H2 e2 w2 n2 => ⟨Hb2, F, w2, s.mono (e1.trans e2), fun z Hb3 H3 e3 w3 n3 => ?_⟩⟩
    obtain ⟨p', ov, e, h1, h2⟩ := g.t Hb3 F H3 _ y w3 (n1.mono (e2.trans e3)) (n2.mono e3)
    cases e
    refine ⟨ov, h1, q _ Hb3 H3 (e1.trans (e2.trans e3)) w3 ?_⟩
    cases h2 with
    | none => exact n3
    | some h => exact h⟩⟩
end
end J
end

section
set_option Elab.async false
set_option linter.all false
set_option maxRecDepth 100000
namespace J
open PySem PySem.Spec PyProof.Rows L2

/-! ### built-in functions -/
/-- the built-in names are bound by nothing in the module -/
structure Bi (mg : Str → Option Value) : Prop where
  len : mg "len" = none
  tuple : mg "tuple" = none
  list : mg "list" = none
  dict : mg "dict" = none
  set : mg "set" = none
  sorted : mg "sorted" = none
  all : mg "all" = none
  any : mg "any" = none
  min : mg "min" = none
  max : mg "max" = none
  abs : mg "abs" = none
  int : mg "int" = none
  bool : mg "bool" = none
  str : mg "str" = none
  range : mg "range" = none
  zip : mg "zip" = none
  enum : mg "enumerate" = none
  isi : mg "isinstance" = none
  sum : mg "sum" = none
structure BltD (X : Cx) (id : String) (o : Own) (ds : List D) (d : D) : Prop where
  ex : ∃ r, CallR X (.builtin id) r ∧ CaD X.K r o ds d
structure TyD (X : Cx) (T : String) (o : Own) (ds : List D) (d : D) : Prop where
  ex : ∃ r, CallR X (.type T) r ∧ CaD X.K r o ds d
section
variable {X : Cx} {γ : Sto} {o o1 o2 o3 : Own} {a b c e : Expr} {es : List Expr} {d d1 d2 d3 : D} {ds : List D} {pos p : Pos}
theorem re_blt {x : Str} {id : String} (hm : X.mg x = none) (ha : RA X (e :: es) γ o ds o1) (h : BltD X id o1 ds d) (hv : bootBuiltins x = some (.builtin id) := by decide +kernel) (hg : Gl X x := by rfl)
    (hn : x ≠ "__name__" := by decide) (hdb : (x == ("__debug__" : Str)) = false := by decide) (he : starEach (e :: es) X.env = (false, eval e X.env) :: starEach es X.env := by rfl) (hpl : (backTo pos (starEach es X.env)).any (·.1) = false := by rfl) :
    RE X (.Call (.Name x p) (e :: es) [] pos) γ o d o1 := by
  obtain ⟨r, h1, h2⟩ := h.ex
  exact re_callB h1 hg hm hv ha h2 hn hdb he hpl
theorem re_tyc {x : Str} {id : String} (hm : X.mg x = none) (ha : RA X (e :: es) γ o ds o1) (h : TyD X id o1 ds d) (hv : bootBuiltins x = some (.type id) := by decide +kernel) (hg : Gl X x := by rfl)
    (hn : x ≠ "__name__" := by decide) (hdb : (x == ("__debug__" : Str)) = false := by decide) (he : starEach (e :: es) X.env = (false, eval e X.env) :: starEach es X.env := by rfl) (hpl : (backTo pos (starEach es X.env)).any (·.1) = false := by rfl) :
    RE X (.Call (.Name x p) (e :: es) [] pos) γ o d o1 := by
  obtain ⟨r, h1, h2⟩ := h.ex
  exact re_callTy h1 hg hm hv ha h2 hn hdb he hpl
theorem denL1 {K : PySem.W.Frag} {H : Hp} {vs : List V} (l : DenL K H vs [d]) : ∃ v, vs = [v] ∧ Den K H v d := by
  cases l with
  | cons h l => cases l; exact ⟨_, rfl, h⟩
theorem denL2 {K : PySem.W.Frag} {H : Hp} {vs : List V} (l : DenL K H vs [d1, d2]) : ∃ v w, vs = [v, w] ∧ Den K H v d1 ∧ Den K H w d2 := by
  cases l with
  | cons h l =>
    cases l with
    | cons h' l => cases l; exact ⟨_, _, rfl, h, h'⟩
/-- what has a length -/
theorem blt_len {xs : List D} (m : Many d xs) : BltD X "len" o [d] (.int (xs.length : Int)) := ⟨_, call_len_seq, fun Hb F H vs Q w l q => by
  obtain ⟨v, rfl, n⟩ := denL1 l
  cases m with
  | tup => cases n with | tup h1 l => exact ⟨_, _, rfl, .inr (SqT.of (w.b _ _ h1)), by rw [l.len]; exact q _ Hb H (Ex.refl _) w (.int _)⟩
  | ptup => cases n with | ptup h1 _ _ l => exact ⟨_, _, rfl, .inr (.inl (.inr ⟨_, w.b _ _ h1⟩)), by rw [l.len]; exact q _ Hb H (Ex.refl _) w (.int _)⟩
  | wt => cases n with | wt h1 l => exact ⟨_, _, rfl, .inr (w.b.sqt h1), by rw [l.len]; exact q _ Hb H (Ex.refl _) w (.int _)⟩
  | lst => cases n with | lst h1 l => exact ⟨_, _, rfl, .inl (SqL.of (w.b _ _ h1)), by rw [l.len]; exact q _ Hb H (Ex.refl _) w (.int _)⟩
  | sl => cases n with | sl h1 l => exact ⟨_, _, rfl, .inl (w.b.sql h1), by rw [l.len]; exact q _ Hb H (Ex.refl _) w (.int _)⟩⟩
theorem ty_tuple {xs : List D} : TyD X "tuple" o [.lst xs] (.tup xs) := ⟨_, call_tuple_of, fun Hb F H vs Q w l q => by
  obtain ⟨v, rfl, n⟩ := denL1 l
  cases n with
  | lst h1 l =>
    refine ⟨_, _, rfl, .inl ⟨SqL.of (w.b _ _ h1), fun p hp => ?_⟩⟩
    obtain ⟨w2, e2⟩ := w.new (u := .tup _) hp
    exact q _ _ _ e2 w2 (.tup upd_same (l.mono e2))⟩
theorem ty_tupleT {xs : List D} : TyD X "tuple" o [.tup xs] (.tup xs) := ⟨_, call_tuple_of, fun Hb F H vs Q w l q => by
  obtain ⟨v, rfl, n⟩ := denL1 l
  cases n with
  | tup h1 l => exact ⟨_, _, rfl, .inr ⟨SqT.of (w.b _ _ h1), q _ Hb H (Ex.refl _) w (.tup h1 l)⟩⟩⟩
theorem ty_list {xs : List D} (m : Many d xs) : TyD X "list" o [d] (.lst xs) := ⟨_, call_list_of, fun Hb F H vs Q w l q => by
  obtain ⟨v, rfl, n⟩ := denL1 l
  have fin : ∀ {ws : List V}, DenL X.K Hb ws xs → ∀ p, H p = none → Q (.ref p) (upd H p (.lst ws)) := fun l p hp => by
    obtain ⟨w2, e2⟩ := w.new (u := .lst _) hp
    exact q _ _ _ e2 w2 (.lst upd_same (l.mono e2))
  cases m with
  | tup => cases n with | tup h1 l => exact ⟨_, _, rfl, .inr (SqT.of (w.b _ _ h1)), fin l⟩
  | ptup => cases n with | ptup h1 _ _ l => exact ⟨_, _, rfl, .inr (.inl (.inr ⟨_, w.b _ _ h1⟩)), fin l⟩
  | wt => cases n with | wt h1 l => exact ⟨_, _, rfl, .inr (w.b.sqt h1), fin l⟩
  | lst => cases n with | lst h1 l => exact ⟨_, _, rfl, .inl (SqL.of (w.b _ _ h1)), fin l⟩
  | sl => cases n with | sl h1 l => exact ⟨_, _, rfl, .inl (w.b.sql h1), fin l⟩⟩
theorem DenL.bls {K : PySem.W.Frag} {H : Hp} : ∀ {vs : List V} {bs : List Bool}, DenL K H vs (bs.map D.bl) → vs = bs.map V.bl
  | _, [], .nil => rfl
  | _, b :: r, .cons h l => by cases h; rw [DenL.bls l]; rfl
theorem blt_all {bs : List Bool} (hc : X.calm = true) : BltD X "all" o [.lst (bs.map D.bl)] (.bl (bs.all id)) := ⟨_, cr_all hc, fun Hb F H vs Q w l q => by
  obtain ⟨v, rfl, n⟩ := denL1 l
  cases n with
  | lst h1 l =>
    have e := l.bls
    subst e
    exact ⟨_, bs, rfl, SqL.of (w.b _ _ h1), q _ Hb H (Ex.refl _) w (.bl _)⟩⟩
theorem blt_any {bs : List Bool} (hc : X.calm = true) : BltD X "any" o [.lst (bs.map D.bl)] (.bl (bs.any id)) := ⟨_, cr_any hc, fun Hb F H vs Q w l q => by
  obtain ⟨v, rfl, n⟩ := denL1 l
  cases n with
  | lst h1 l =>
    have e := l.bls
    subst e
    exact ⟨_, bs, rfl, SqL.of (w.b _ _ h1), q _ Hb H (Ex.refl _) w (.bl _)⟩⟩
theorem blt_min2 {i j : Int} (hc : X.calm = true) : BltD X "min" o [.int i, .int j] (.int (if j < i then j else i)) := ⟨_, call_min2 hc, fun Hb F H vs Q w l q => by
  obtain ⟨v, v', rfl, n, n'⟩ := denL2 l
  cases n; cases n'
  exact ⟨i, j, rfl, q _ Hb H (Ex.refl _) w (.int _)⟩⟩
theorem blt_max2 {i j : Int} (hc : X.calm = true) : BltD X "max" o [.int i, .int j] (.int (if j > i then j else i)) := ⟨_, call_max2 hc, fun Hb F H vs Q w l q => by
  obtain ⟨v, v', rfl, n, n'⟩ := denL2 l
  cases n; cases n'
  exact ⟨i, j, rfl, q _ Hb H (Ex.refl _) w (.int _)⟩⟩
theorem blt_abs {i : Int} : BltD X "abs" o [.int i] (.int (if i < 0 then -i else i)) := ⟨_, call_abs, fun Hb F H vs Q w l q => by
  obtain ⟨v, rfl, n⟩ := denL1 l
  cases n
  exact ⟨i, rfl, q _ Hb H (Ex.refl _) w (.int _)⟩⟩
theorem ty_int {i : Int} : TyD X "int" o [.int i] (.int i) := ⟨_, call_int1, fun Hb F H vs Q w l q => by
  obtain ⟨v, rfl, n⟩ := denL1 l
  cases n
  exact .inl ⟨i, rfl, q _ Hb H (Ex.refl _) w (.int _)⟩⟩
/-- a datum's built-in class -/
def D.cls : D → String
  | .non => "NoneType"
  | .bl _ => "bool"
  | .int _ => "int"
  | .str _ => "str"
  | .tup _ => "tuple"
  | .lst _ => "list"
  | .dT _ => "dict"
  | .dK _ => "dict"
  | _ => ""
theorem tyx_of {K : PySem.W.Frag} {Hb H : Hp} {v : V} (e : Ex Hb H) : ∀ {d : D}, Den K Hb v d → d.cls ≠ "" → (∀ m, d ≠ .dT m) → TyX K H v (if d.cls = "NoneType" then .type "NoneType" else .type d.cls)
  | _, .bl b, _, _ => .base (.bl b)
  | _, .int b, _, _ => .base (.int b)
  | _, .str b, _, _ => .base (.str b)
  | _, .tup h _, _, _ => .base (.tup (e _ _ h))
  | _, .lst h _, _, _ => .base (.lst (e _ _ h))
  | _, .dT _ _, _, n => (n _ rfl).elim
  | _, .dK h _, _, _ => .fDict (e _ _ h)
  | _, .non, _, _ => .base .non
  | _, .wt _ _, h, _ => (h rfl).elim
  | _, .ptup _ _ _ _, h, _ => (h rfl).elim
  | _, .sl _ _, h, _ => (h rfl).elim
  | _, .adr _, h, _ => (h rfl).elim
  | _, .ty _, h, _ => (h rfl).elim
/-- isinstance of a locked dict with tuple keys -/
theorem cr_isiT : CallR X (.builtin "isinstance") (fun xs H Q => ∃ (a : Addr) (od : Obj) (ws : List (List Key × V)) (T : String) (k : Bool), xs = [.ref a, .ty T] ∧ H a = some (.frz od (.dT ws)) ∧ PySem.W.kitOne X.K (.type "dict") (.type T) = some k ∧ Q (.bl k) H) := by
  intro pins s σ H xs us Q I r h
  obtain ⟨a, od, ws, T, k, rfl, ha, hk, q⟩ := h
  obtain ⟨u1, u2, rfl, r1, r2⟩ := vals2 r
  cases (show u1 = Value.ref a from r1)
  cases (show u2 = Value.type T from r2)
  obtain ⟨_, hg, hx, _⟩ := I.frzT ha
  exact PySem.W.kia_one PySem.W.kitx_dict I.kIn ⟨od, hg, hx.1⟩ hk (fun z => nomatch z) fun tk => ⟨.bl k, H, I.tok tk, rfl, q⟩
/-- isinstance(x, T), T a built-in class; b by decide +kernel -/
theorem blt_isi {T : String} {k : Bool} (hb : kitB d.cls T = some k) (hc : d.cls ≠ "") : BltD X "isinstance" o [d, .ty T] (.bl k) := by
  have z := kit_ty (K := X.K) hb
  by_cases c : ∃ m, d = .dT m
  · obtain ⟨m, rfl⟩ := c
    refine ⟨_, cr_isiT, fun Hb F H vs Q w l q => ?_⟩
    obtain ⟨v, v', rfl, n, n'⟩ := denL2 l
    cases n'
    cases n with
    | dT h _ => exact ⟨_, _, _, T, k, rfl, w.b _ _ h, z, q _ Hb H (Ex.refl _) w (.bl _)⟩
  · refine ⟨_, call_isi, fun Hb F H vs Q w l q => ?_⟩
    obtain ⟨v, v', rfl, n, n'⟩ := denL2 l
    cases n'
    refine ⟨v, .ty T, _, _, k, rfl, .ty T, tyx_of w.b n hc (fun m e => c ⟨m, e⟩), ?_, q _ Hb H (Ex.refl _) w (.bl _)⟩
    split
    · rename_i h; rw [h] at z; exact z
    · exact z

/-! ### methods -/
theorem DenL.strs {K : PySem.W.Frag} {H : Hp} : ∀ {vs : List V} {bs : List Str}, DenL K H vs (bs.map D.str) → vs = bs.map V.str
  | _, [], .nil => rfl
  | _, b :: r, .cons h l => by cases h; rw [DenL.strs l]; rfl
/-- tuple(xs), a tuple of which it is known that it has no dict -/
theorem call_tupleP : CallR X (.type "tuple") (fun xs H Q => ∃ p ys, xs = [.ref p] ∧ SqL X.K H p ys ∧ ∀ l ob, ob.dict = none → ob.cls = .type "tuple" → H l = none → Q (.ref l) (upd H l (.frz ob (.tup ys)))) := by
  intro pins s σ H xs us Q I r h
  obtain ⟨p, ys, rfl, hq, q⟩ := h
  obtain ⟨u, rfl, rx⟩ := vals1 r
  cases rx
  obtain ⟨its, r', pl, hz⟩ := I.list hq
  have hlen := r'.length
  refine call_tuple_list pl.isList (fun h' kp => ?_) (by simp only [List.size_toArray] <;> omega)
  have I1 : Inv X pins σ H { s with heap := h' } := I.kept (t' := s.toks) kp
  have e2 : (h'.push { cls := .type "tuple", data := .seq its.toArray }).get? h'.objs.size = some { cls := .type "tuple", data := .seq its.toArray } := Heap.get?_push_size _ rfl
  have I2 : Inv X pins σ (upd H h'.objs.size (.frz { cls := .type "tuple", data := .seq its.toArray } (.tup ys))) { s with heap := h'.push { cls := .type "tuple", data := .seq its.toArray } } :=
    I1.laid (t' := s.toks) (fun b ob e => Heap.get?_push_of_some _ e) (Nat.le_refl _) (show ObjOk X.prog X.w _ _ _ (.frz _ (.tup ys)) from ⟨e2, hz, its, r', IsTup.new _ _⟩)
  exact ⟨.ref h'.objs.size, _, I2, rfl, q _ _ rfl rfl (I1.hok.fresh (Nat.le_refl _))⟩
theorem ty_tupleP {xs : List D} : TyD X "tuple" o [.lst xs] (.ptup xs) := ⟨_, call_tupleP, fun Hb F H vs Q w l q => by
  obtain ⟨v, rfl, n⟩ := denL1 l
  cases n with
  | lst h1 l =>
    refine ⟨_, _, rfl, SqL.of (w.b _ _ h1), fun p ob hd hc hp => ?_⟩
    obtain ⟨w2, e2⟩ := w.new (u := .frz ob (.tup _)) hp
    exact q _ _ _ e2 w2 (.ptup upd_same hd hc (l.mono e2))⟩
/-- a method of such a tuple -/
def tPM (r : V → List V → Hp → VK → Prop) (to : TE) (t : TA) : TE := fun σ H Q => to σ H fun x H1 => (∃ p ob xs, x = .ref p ∧ H1 p = some (.frz ob (.tup xs)) ∧ ob.dict = none ∧ ob.cls = .type "tuple") ∧ t σ H1 fun xs H2 => r x xs H2 Q
theorem pe_pm {to : TE} {t : TA} {name : Str} {id : String} {r : V → List V → Hp → VK → Prop} {apos cpos : Pos} (pa : PlainAttrs "tuple") (slot : Slot "tuple" name id) (hty : typeOf (.builtin id) = pure (.type "method_descriptor")) (hm : MtR X id r) (ho : PE X a to) (ha : PA X (e :: es) t)
    (hbase : attributeBase a name X.env (eval a X.env) = eval a X.env := by rfl)
    (hfew : ((backTo cpos (starEach (e :: es) X.env)).all (fun x => !x.1) && (backToKw cpos (keywordEach [] X.env)).all (fun x => x.1.isSome) && decide ((e :: es).length + ([] : List Keyword).length + (if ([] : List Keyword).isEmpty then 0 else 1) < 30)) = true := by rfl)
    (hline : (apos.endLine == cpos.line) = true := by rfl) (hs : starEach (e :: es) X.env = (false, eval e X.env) :: starEach es X.env := by rfl) (hplain : (backTo cpos (starEach es X.env)).any (·.1) = false := by rfl) :
    PE X (.Call (.Attribute a name apos) (e :: es) [] cpos) (tPM r to t) := by
  refine ⟨fun pins s σ H Q I h => ?_⟩
  refine wpAny_Call_method_late hbase hfew hline rfl (thn (ho.run pins s σ H _ I h) fun v s1 hh => ?_)
  obtain ⟨x, H1, I1, r1, ⟨p, ob, xs, rfl, hp, hd, hcl⟩, q1⟩ := hh
  cases (show v = Value.ref p from r1)
  obtain ⟨hg, _⟩ := (show ObjOk X.prog X.w H1 s1.heap p (.frz ob (.tup xs)) from I1.hok p _ hp)
  refine ⟨"tuple", id, pa, slot, hty, ⟨ob, hg, hcl⟩, fun b hb => ?_, ?_⟩
  · cases hb
    exact ⟨ob, hg, hd⟩
  · have hA := ha.run cpos pins s1 σ H1 _ I1 q1
    rw [hs] at hA ⊢
    refine Calls.callWith_builtin (by show (false || (backTo cpos (starEach es X.env)).any (·.1)) = false; rw [hplain] <;> rfl) (Calls.evalArgs_plain ?_)
    exact thn hA fun us s2 ⟨vs, H2, I2, r2, q2⟩ => hm pins s2 σ H2 (V.ref p) vs _ us Q I2 rfl r2 q2
/-- names.index(name), such a tuple of texts -/
theorem re_index {apos cpos : Pos} {xs : List Str} {z : Str} {j : Nat} (ha : RE X a γ o (.ptup (xs.map D.str)) o1) (hb : RA X [b] γ o1 [.str z] o2) (h1 : xs[j]? = some z) (h2 : ∀ m, m < j → xs[m]? ≠ some z)
    (hbase : attributeBase a "index" X.env (eval a X.env) = eval a X.env := by rfl)
    (hfew : ((backTo cpos (starEach [b] X.env)).all (fun x => !x.1) && (backToKw cpos (keywordEach [] X.env)).all (fun x => x.1.isSome) && decide (([b] : List Expr).length + ([] : List Keyword).length + (if ([] : List Keyword).isEmpty then 0 else 1) < 30)) = true := by rfl)
    (hline : (apos.endLine == cpos.line) = true := by rfl) (hs : starEach [b] X.env = (false, eval b X.env) :: starEach [] X.env := by rfl) (hplain : (backTo cpos (starEach [] X.env)).any (·.1) = false := by rfl) :
    RE X (.Call (.Attribute a "index" apos) [b] [] cpos) γ o (.int (j : Int)) o2 :=
  ⟨PE.imp (pe_pm PySem.F.plainAttrs_tuple PySem.F.slot_tuple_index PySem.F.type_tuple_index mt_tup_index ha.p hb.p hbase hfew hline hs hplain) fun σ H Q ⟨Hb, F, w, s, q⟩ => ⟨Hb, F, w, s, fun x Hb1 H1 e1 w1 n1 => by
    cases n1 with
    | ptup h3 h4 h5 l =>
      have e := l.strs
      subst e
      refine ⟨⟨_, _, _, rfl, w1.b _ _ h3, h4, h5⟩, Hb1, F, w1, s.mono e1, fun vs Hb2 H2 e2 w2 n2 => ?_⟩
      obtain ⟨v, rfl, n⟩ := denL1 n2
      cases n
      exact ⟨_, xs, z, j, rfl, rfl, .inl (.inr ⟨_, w2.b _ _ (e2 _ _ h3)⟩), h1, h2, q _ Hb2 H2 (e1.trans e2) w2 (.int _)⟩⟩⟩
end
end J
end

section
set_option Elab.async false
set_option linter.all false
set_option maxRecDepth 100000
/-! sorted: lists and sets of tuples of whole numbers (of any sign), rows of frames -/
namespace J
open PySem PySem.Spec PyProof.Rows L2

/-! ### the order of lists of numbers -/
abbrev lexLt := HT.lexLt
theorem lex_tri : ∀ a b : List Int, lexLt a b = false → lexLt b a = false → a = b
  | [], [], _, _ => rfl
  | [], y :: ys, h, _ => by rw [lexLt, HT.lexLt_nil_cons] at h; cases h
  | x :: xs, [], _, h => by rw [lexLt, HT.lexLt_nil_cons] at h; cases h
  | x :: xs, y :: ys, h1, h2 => by
    rw [lexLt, HT.lexLt_cons] at h1 h2
    by_cases e : x = y
    · subst e
      rw [if_pos rfl] at h1 h2
      rw [lex_tri xs ys h1 h2]
    · rw [if_neg e] at h1
      rw [if_neg (Ne.symm e)] at h2
      have a := of_decide_eq_false h1
      have b := of_decide_eq_false h2
      omega
/-- ascending, each once -/
def Asc (l : List (List Int)) : Prop := l.Pairwise fun a b => lexLt a b = true
/-- two ascending lists with the same members are one -/
theorem asc_one : ∀ {l m : List (List Int)}, Asc l → Asc m → (∀ x, x ∈ l ↔ x ∈ m) → l = m
  | [], [], _, _, _ => rfl
  | [], y :: m, _, _, h => absurd ((h y).mpr List.mem_cons_self) (by simp)
  | x :: l, [], _, _, h => absurd ((h x).mp List.mem_cons_self) (by simp)
  | x :: l, y :: m, hl, hm, h => by
    obtain ⟨lx, hl'⟩ := List.pairwise_cons.mp hl
    obtain ⟨my, hm'⟩ := List.pairwise_cons.mp hm
    have irr : ∀ a : List Int, ¬ lexLt a a = true := fun a q => by
      have h1 : lexLt a a = false := NtL.lex_asym a a q
      rw [q] at h1; cases h1
    have exy : x = y := by
      rcases List.mem_cons.mp ((h x).mp List.mem_cons_self) with e | e
      · exact e
      · rcases List.mem_cons.mp ((h y).mpr List.mem_cons_self) with e2 | e2
        · exact e2.symm
        · have a := my x e
          have b := NtL.lex_asym x y (lx y e2)
          rw [show HT.lexLt y x = true from a] at b; cases b
    subst exy
    have rest : ∀ z, z ∈ l ↔ z ∈ m := fun z => by
      constructor
      · intro q
        rcases List.mem_cons.mp ((h z).mp (List.mem_cons_of_mem _ q)) with e | e
        · subst e; exact absurd (lx z q) (irr z)
        · exact e
      · intro q
        rcases List.mem_cons.mp ((h z).mpr (List.mem_cons_of_mem _ q)) with e | e
        · subst e; exact absurd (my z q) (irr z)
        · exact e
    rw [asc_one (show Asc l from hl') (show Asc m from hm') rest]
/-- put into an ascending list -/
def insA (x : List Int) : List (List Int) → List (List Int)
  | [] => [x]
  | y :: r => if lexLt x y then x :: y :: r else if lexLt y x then y :: insA x r else y :: r
def sortA (l : List (List Int)) : List (List Int) := l.foldr insA []
theorem insA_mem (x z : List Int) : ∀ l : List (List Int), z ∈ insA x l ↔ z = x ∨ z ∈ l
  | [] => by simp [insA]
  | y :: r => by
    unfold insA
    by_cases h1 : lexLt x y = true
    · rw [if_pos h1, List.mem_cons]
    · rw [if_neg h1]
      by_cases h2 : lexLt y x = true
      · rw [if_pos h2, List.mem_cons, insA_mem x z r, List.mem_cons]
        constructor
        · rintro (h | h | h)
          · exact .inr (.inl h)
          · exact .inl h
          · exact .inr (.inr h)
        · rintro (h | h | h)
          · exact .inr (.inl h)
          · exact .inl h
          · exact .inr (.inr h)
      · rw [if_neg h2]
        have e := lex_tri x y (Bool.eq_false_iff.mpr h1) (Bool.eq_false_iff.mpr h2)
        subst e
        rw [List.mem_cons]
        constructor
        · exact .inr
        · rintro (h | h)
          · exact .inl h
          · exact h
theorem lexLt_trans {a b c : List Int} (h1 : lexLt a b = true) (h2 : lexLt b c = true) : lexLt a c = true := by
  have h3 := NtL.lex_asym _ _ h1
  have h4 := NtL.lex_asym _ _ h2
  have h5 : lexLt c a = false := NtL.lex_tr _ _ _ h3 h4
  cases q : lexLt a c with
  | true => rfl
  | false =>
    have e := lex_tri a c q h5
    subst e
    rw [show HT.lexLt b a = true from h2] at h3; cases h3
theorem insA_asc (x : List Int) : ∀ {l : List (List Int)}, Asc l → Asc (insA x l)
  | [], _ => List.pairwise_singleton _ _
  | y :: r, h => by
    obtain ⟨hy, hr⟩ := List.pairwise_cons.mp h
    unfold insA
    by_cases h1 : lexLt x y = true
    · rw [if_pos h1]
      exact List.pairwise_cons.mpr ⟨fun z hz => by
        rcases List.mem_cons.mp hz with e | e
        · rw [e]; exact h1
        · exact lexLt_trans h1 (hy z e), h⟩
    · rw [if_neg h1]
      by_cases h2 : lexLt y x = true
      · rw [if_pos h2]
        exact List.pairwise_cons.mpr ⟨fun z hz => by
          rcases (insA_mem x z r).mp hz with e | e
          · rw [e]; exact h2
          · exact hy z e, insA_asc x hr⟩
      · rw [if_neg h2]; exact h
theorem sortA_asc : ∀ l : List (List Int), Asc (sortA l)
  | [] => List.Pairwise.nil
  | x :: r => insA_asc x (sortA_asc r)
theorem sortA_mem (z : List Int) : ∀ l : List (List Int), z ∈ sortA l ↔ z ∈ l
  | [] => Iff.rfl
  | x :: r => by
    show z ∈ insA x (sortA r) ↔ _
    rw [insA_mem, sortA_mem z r, List.mem_cons]
/-- what is ascending and has the same members is it -/
theorem sortA_of {l m : List (List Int)} (h : Asc m) (hm : ∀ x, x ∈ m ↔ x ∈ l) : m = sortA l := asc_one h (sortA_asc l) fun x => (hm x).trans (sortA_mem x l).symm
theorem asc_nodup {l : List (List Int)} (h : Asc l) : l.Nodup := List.Pairwise.imp (fun {a b} q e => by
  subst e
  have h1 : lexLt a a = false := NtL.lex_asym a a q
  rw [q] at h1; cases h1) h
theorem asc_of {l : List (List Int)} (h : l.Pairwise fun a b => lexLt b a = false) (n : l.Nodup) : Asc l := by
  refine List.Pairwise.imp₂ (fun {a b} h1 h2 => ?_) h n
  cases q : lexLt a b with
  | true => rfl
  | false => exact absurd (lex_tri a b q h1) h2

/-! ### lists that are other lists' images, up to order -/
theorem perm_image {α β : Type} (f : α → β) {l : List β} {m : List α} (h : l.Perm (m.map f)) : ∃ m' : List α, m'.Perm m ∧ l = m'.map f := by
  generalize e : m.map f = k at h
  induction h generalizing m with
  | nil =>
    cases m with
    | nil => exact ⟨[], List.Perm.refl _, rfl⟩
    | cons a r => cases e
  | cons x p ih =>
    cases m with
    | nil => cases e
    | cons a r =>
      rw [List.map_cons] at e
      injection e with e1 e2
      obtain ⟨m', p', e'⟩ := ih e2
      exact ⟨a :: m', p'.cons a, by rw [List.map_cons, e1, e']⟩
  | swap x y l =>
    cases m with
    | nil => cases e
    | cons a r =>
      cases r with
      | nil => cases e
      | cons b r =>
        rw [List.map_cons, List.map_cons] at e
        injection e with e1 e2
        injection e2 with e2 e3
        exact ⟨b :: a :: r, List.Perm.swap _ _ _, by rw [List.map_cons, List.map_cons, e1, e2, e3]⟩
  | trans p q ih1 ih2 =>
    obtain ⟨m2, p2, e2⟩ := ih2 e
    obtain ⟨m1, p1, e1⟩ := ih1 e2.symm
    exact ⟨m1, p1.trans p2, e1⟩

/-! ### comparing tuples of numbers -/
section
variable {prog : Program} {w : World} {A : Around} {s : Shared}
theorem walk_lex {b : Bool} {Q : Bool → Shared → Prop} {xs ys : List Value} {ns ms : List Int} (i : Nat) (hx : IntsAre xs ns) (hy : IntsAre ys ms) (hl : ns.length = ms.length) (h : Q (lexLt ns ms) s) :
    PySem.W.KatLex prog w A b false Q (xs.zip ys) i s := by
  induction hx generalizing ys ms i with
  | nil =>
    cases hy with
    | nil => exact PySem.W.kat_nil h
    | cons q u hy => cases hl
  | @cons p t xs ns hx ih =>
    cases hy with
    | nil => cases hl
    | @cons q u ys ms hy =>
      have hl' : ns.length = ms.length := Nat.succ.inj hl
      rw [List.zip_cons_cons]
      refine PySem.W.kat_cons (wpAny_eqBool_int ?_)
      rw [lexLt, HT.lexLt_cons] at h
      by_cases e : p = q
      · subst e
        rw [if_pos rfl] at h
        rw [beq_self_eq_true]
        exact PySem.W.kat_yes (ih (i + 1) hy hl' h)
      · rw [if_neg e] at h
        rw [show (p == q) = false from beq_eq_false_iff_ne.mpr e]
        exact PySem.W.kat_no (TS.oneLt_ints _ h)
/-- the values are tuples of d numbers each -/
def TupsD (h : Heap) (d : Nat) (vs : List Value) : Prop := ∀ v ∈ vs, ∃ ns, TS.TupInts h v ns ∧ ns.length = d
theorem firsts_int {h : Heap} {d : Nat} (hd : 1 ≤ d) : ∀ vs : List Value, TupsD h d vs → ∃ fs, PySem.W.KatTups h vs fs ∧ fs.length = vs.length ∧ ∀ f ∈ fs, ∃ n t, f = Value.int n t
  | [], _ => ⟨[], .nil, rfl, fun f hf => (List.not_mem_nil hf).elim⟩
  | v :: vs, x => by
    obtain ⟨fs, k, hl, hi⟩ := firsts_int hd vs fun u hu => x u (List.mem_cons_of_mem _ hu)
    obtain ⟨ns, ⟨a, xs, rfl, ⟨o, ho, hc, n, hdt⟩, ii⟩, hn⟩ := x v List.mem_cons_self
    cases ns with
    | nil => rw [← hn] at hd; exact absurd hd (by decide)
    | cons m ns =>
      generalize q : xs.toList = l at ii
      cases ii with
      | cons _ t tl =>
        refine ⟨Value.int m t :: fs, PySem.W.KatTups.cons ho hc hdt ?_ k, congrArg (· + 1) hl, fun f hf => ?_⟩
        · have z := congrArg (fun l : List Value => l[0]?) q
          simpa using z
        · rcases List.mem_cons.mp hf with rfl | hf
          · exact ⟨m, t, rfl⟩
          · exact hi f hf
theorem sortable_ints {a : Addr} {d : Nat} {vs : List Value} (k : Value → List Int) (hd : 1 ≤ d) (h0 : 0 < vs.length) (hp : ∀ v ∈ vs, TS.TupInts s.heap v (k v) ∧ (k v).length = d) (ha : ∀ o, s.heap.get? a = some o → o.cls ≠ .type "tuple") :
    SrtO.SortableO prog w A s a vs fun v u => lexLt (k v) (k u) := by
  intro h' keep
  have kp : ∀ {v ns}, TS.TupInts s.heap v ns → TS.TupInts h' v ns := fun t => t.keeps fun b o e c => keep b o (fun z => by subst z; exact ha o e c) e
  have hp' : TupsD h' d vs := fun v hv => ⟨k v, kp (hp v hv).1, (hp v hv).2⟩
  obtain ⟨fs, h1, h2, h3⟩ := firsts_int hd vs hp'
  refine ⟨tuples' true, fun Q E hq => ?_, fun p q hm hm' => ?_⟩
  · refine PySem.W.kat_kind (T := .type "int") h1 (by omega) (fun f hf => ?_) rfl ?_
    · obtain ⟨x, t, rfl⟩ := h3 f hf
      exact PySem.W.Looks.now
    · rw [show (Value.type "int" != Value.type "tuple") = true by decide +kernel]
      exact hq
  · obtain ⟨t1, l1⟩ := hp _ hm
    obtain ⟨t2, l2⟩ := hp _ hm'
    show wpAny (model prog w) A (keyLt' (tuples' true) p.1 q.1) (fun r s' => s' = { s with heap := h' } ∧ r = lexLt (k p.1) (k q.1)) (fun _ _ => False) { s with heap := h' }
    obtain ⟨b, xs, e1, ⟨ob, ho, hc, n, hdt⟩, i1⟩ := kp t1
    obtain ⟨c, ys, e2, ⟨oc, ho', hc', n', hdt'⟩, i2⟩ := kp t2
    generalize k p.1 = kp1 at *
    generalize k q.1 = kq1 at *
    rw [e1, e2]
    refine PySem.W.kat_lt ho hdt ho' hdt' ?_
    have sz : decide (xs.size < ys.size) = false := by
      have z1 := i1.length
      have z2 := i2.length
      rw [Array.length_toList] at z1 z2
      exact decide_eq_false (by omega)
    rw [sz]
    exact walk_lex 0 i1 i2 (by omega) ⟨rfl, rfl⟩
end

section
variable {X : Cx}
theorem refs_are {ks : List (Addr × List Int)} : ∀ {us : List Value}, Vals (ks.map fun p => V.ref p.1) us → us = ks.map fun p => Value.ref p.1 := fun r => refs_of_vals r
theorem Inv.tupI {pins : List (Addr × Obj)} {σ : L2.St} {H : Hp} {s : Shared} {b : Addr} {k : List Int} (I : Inv X pins σ H s) (h : SqT X.K H b (k.map V.int)) : TS.TupInts s.heap (.ref b) k := tupInts_of (I.isT h)
/-- sorted(xs), xs a list of tuples of d numbers -/
def rSortI (K : PySem.W.Frag) : List V → Hp → VK → Prop := fun vs H Q => ∃ (a : Addr) (ks : List (Addr × List Int)) (d : Nat), vs = [V.ref a] ∧ SqL K H a (ks.map fun p => V.ref p.1) ∧ (∀ p ∈ ks, SqT K H p.1 (p.2.map V.int)) ∧ 1 ≤ d ∧ (∀ p ∈ ks, p.2.length = d) ∧
  ∀ (L : List (Addr × List Int)) (q : Addr), L.Perm ks → L.Pairwise (fun x y => lexLt y.2 x.2 = false) → H q = none → Q (.ref q) (upd H q (.lst (L.map fun p => V.ref p.1)))
theorem cr_sortI : CallR X (.builtin "sorted") (rSortI X.K) := by
  intro pins s σ H vs us Q I r h
  obtain ⟨a, ks, d, rfl, hl, hk, hd, hdl, q⟩ := h
  rw [Vals.ref1 r]
  obtain ⟨its, rv, pl, hz⟩ := I.list hl
  have ei := refs_are rv
  have tk : ∀ p ∈ ks, TS.TupInts s.heap (.ref p.1) p.2 := fun p hp => Inv.tupI I (hk p hp)
  have hv : ∀ v ∈ its, ∃ p ∈ ks, v = Value.ref p.1 := fun v hm => by
    rw [ei] at hm
    obtain ⟨p, hp, e⟩ := List.mem_map.mp hm
    exact ⟨p, hp, e.symm⟩
  refine SrtO.sorted_ord (vs := its) (ltv := fun v u => lexLt (TS.intsOf s.heap v) (TS.intsOf s.heap u)) (NtL.swo_lexL _) pl.isList (by rw [← rv.length]; exact hz) (fun h2 h₁ a' ha kk => ?_) fun out hs hb => ?_
  · refine sortable_ints (s := { s with heap := h₁ }) (fun v => TS.intsOf s.heap v) hd (by omega) (fun v hm => ?_) fun o e => ?_
    · obtain ⟨p, hp, rfl⟩ := hv v hm
      rw [(tk p hp).ints]
      exact ⟨(tk p hp).keeps fun b o e _ => (kk b o e).2, hdl p hp⟩
    · have e' : some o = some (seqObj "list" its.toArray 0) := e.symm.trans ha
      cases e'
      intro c
      exact absurd (Value.type.inj c) (by decide)
  · obtain ⟨L, pL, eL⟩ := perm_image (fun p : Addr × List Int => Value.ref p.1) (show out.Perm (ks.map fun p => Value.ref p.1) by rw [← ei]; exact hb.perm)
    obtain ⟨e, hat⟩ := sortedAll_at s.heap its out.toArray
    have hlen : (L.map fun p => V.ref p.1).length ≤ sizeLine := by
      rw [List.length_map, pL.length_eq]
      rw [List.length_map] at hz
      exact hz
    refine ⟨.ref (s.heap.objs.size + 1), upd H (s.heap.objs.size + 1) (.lst (L.map fun p => V.ref p.1)), I.laid (t' := s.toks) (fun b o e => sortedAll_old e) (Nat.le_succ _) ⟨hlen, out, e, ?_, hat⟩, rfl, q L _ pL ?_ (I.hok.fresh (Nat.le_succ _))⟩
    · rw [eL]; exact vals_of_refs L
    · rw [eL] at hs
      refine List.Pairwise.imp_of_mem (fun {x y} hx hy hle => ?_) (List.pairwise_map.mp hs)
      have e1 := (tk x (pL.mem_iff.mp hx)).ints
      have e2 := (tk y (pL.mem_iff.mp hy)).ints
      rw [← e1, ← e2]
      exact hle
end
end J
end

section
set_option Elab.async false
set_option linter.all false
set_option maxRecDepth 100000
/-! set(xs) of any many tuples of numbers with fewer than 63 different ones among them; sorted of it -/
namespace J
open PySem PySem.Spec PyProof.Rows L2

theorem nodup_sub_len {α : Type} [DecidableEq α] : ∀ {l m : List α}, l.Nodup → (∀ x ∈ l, x ∈ m) → l.length ≤ m.length
  | [], _, _, _ => Nat.zero_le _
  | x :: r, m, h, hs => by
    obtain ⟨hx, hr⟩ := List.nodup_cons.mp h
    have hm := hs x List.mem_cons_self
    have ih := nodup_sub_len (l := r) (m := m.erase x) hr fun y hy => (List.mem_erase_of_ne (fun e => by subst e; exact hx hy)).mpr (hs y (List.mem_cons_of_mem _ hy))
    rw [List.length_erase_of_mem hm] at ih
    have := List.length_pos_of_mem hm
    rw [List.length_cons]
    omega
/-- what the set has behind the first i of ks -/
structure Has1 (ks : List (Addr × List Int)) (i : Nat) (L : List (Addr × List Int)) : Prop where
  inn : ∀ p ∈ L, p ∈ ks
  all : ∀ (j : Nat) (p : Addr × List Int), j < i → ks[j]? = some p → p.2 ∈ L.map (·.2)
section
variable {P : Program} {w : World} {A : Around} {E : Value → Shared → Prop}
abbrev STR := SetTR
/-- one member more -/
theorem has1_step {ks L L' : List (Addr × List Int)} {i : Nat} {p : Addr × List Int} (g : Has1 ks i L) (hp : ks[i]? = some p) (h1 : p.2 ∈ L.map (·.2) → L' = L) (h2 : p.2 ∉ L.map (·.2) → L'.Perm (p :: L)) : Has1 ks (i + 1) L' := by
  by_cases c : p.2 ∈ L.map (·.2)
  · rw [h1 c]
    refine ⟨g.inn, fun j q hj hq => ?_⟩
    by_cases e : j = i
    · subst e; rw [hp] at hq; cases hq; exact c
    · exact g.all j q (by omega) hq
  · have pm := h2 c
    refine ⟨fun q hq => ?_, fun j q hj hq => ?_⟩
    · rcases List.mem_cons.mp (pm.mem_iff.mp hq) with e | e
      · rw [e]; exact List.mem_of_getElem? hp
      · exact g.inn q e
    · refine (pm.map (·.2)).mem_iff.mpr ?_
      rw [List.map_cons, List.mem_cons]
      by_cases e : j = i
      · subst e; rw [hp] at hq; cases hq; exact .inl rfl
      · exact .inr (g.all j q (by omega) hq)
variable {I : Addr} {fp wr : List Addr} {G : Array GenState → Array GenState → Prop} {n : Nat} {Pv : Nat → Value → Prop} {St : Nat → Shared → Prop} {R : Result → Shared → Prop}
/-- the loop that fills a set: U holds all members that may come -/
theorem fill_set (W : WalksS P w A.in1 I fp wr G n Pv St) (S : Addr) (hSf : S ∉ fp) (ks : List (Addr × List Int)) (hn : n = ks.length) (U : List (List Int)) (hU : U.length < 63) (hin : ∀ p ∈ ks, p.2 ∈ U)
    (hval : ∀ i v, Pv i v → ∃ p, ks[i]? = some p ∧ v = .ref p.1) (h0 : Heap) (hk : ∀ p ∈ ks, IsT P w h0 p.2 p.1) (hS0 : h0.get? S = none) (hw0 : ∀ b ∈ wr, h0.get? b = none) (hu : A.in1.units < cLine) :
    ∀ (m i : Nat) (s : Shared), n - i = m → i ≤ n → St i s → (∀ b ob, h0.get? b = some ob → s.heap.get? b = some ob) →
      (∃ L es ep t, SetTR P w s.heap S L es ep t ∧ Has1 ks i L) →
      (∀ s' L es ep t, Moved (S :: wr) G s s' → SetTR P w s'.heap S L es ep t → Has1 ks n L → (∀ b ob, h0.get? b = some ob → s'.heap.get? b = some ob) → R (.ok (.ret .none)) s') →
      codeAny (model P w) A (.builtin "set.update.loop" ⟨[.ref S, .ref I], []⟩) R s := by
  have sNot : S ∉ wr := fun h => hSf (W.sub _ h)
  have more : ∀ b ∈ wr, b ∈ S :: wr := fun b hb => List.mem_cons_of_mem _ hb
  have stays : ∀ {s s' : Shared}, Moved wr G s s' → (∀ b ob, h0.get? b = some ob → s.heap.get? b = some ob) → ∀ b ob, h0.get? b = some ob → s'.heap.get? b = some ob := fun hm hkp b ob e =>
    hm.heap b ob (fun hb => by rw [hw0 b hb] at e; cases e) (hkp b ob e)
  intro m
  induction m with
  | zero =>
    intro i s hm hi st kp ⟨L, es, ep, t, hS, g⟩ hR
    obtain rfl : i = n := by omega
    refine codeAny_builtin F.entry_set_update_loop ?_
    rw [Around.under_plainId F.plain_set_update_loop _]
    refine (wpAny_bind (W.done s _ _ st fun s' mv => ?_) : wpAny _ A.in1 (pyNext (.ref I) >>= _) _ _ s)
    have kp' := stays mv kp
    refine (wpAny_pure ?_ : wpAny _ A.in1 (ret Value.none) _ _ s')
    exact hR s' L es ep t (mv.mono more) (hS.keep (fun ob e => mv.heap S ob sNot e) fun p hp => isT_keep (hk p (g.inn p hp)) kp') g kp'
  | succ m ih =>
    intro i s hm hi st kp ⟨L, es, ep, t, hS, g⟩ hR
    have lt : i < n := by omega
    refine codeAny_builtin F.entry_set_update_loop ?_
    rw [Around.under_plainId F.plain_set_update_loop _]
    refine (wpAny_bind (W.item i s _ _ lt st fun v s' hP st' mv => ?_) : wpAny _ A.in1 (pyNext (.ref I) >>= _) _ _ s)
    obtain ⟨p, hp, rfl⟩ := hval i v hP
    have kp' := stays mv kp
    have hS' : SetTR P w s'.heap S L es ep t := hS.keep (fun ob e => mv.heap S ob sNot e) fun q hq => isT_keep (hk q (g.inn q hq)) kp'
    have hx : IsT P w s'.heap p.2 p.1 := isT_keep (hk p (List.mem_of_getElem? hp)) kp'
    have few : L.length + 1 < 64 := by
      have z := nodup_sub_len (l := L.map (·.2)) (m := U) hS.nd fun k hk' => by
        obtain ⟨q, hq, e⟩ := List.mem_map.mp hk'
        rw [← e]; exact hin q (g.inn q hq)
      rw [List.length_map] at z
      omega
    refine (wpAny_bind (wpAny_holding ?_) : wpAny _ A.in1 (holding [Value.ref p.1] (setAdd S (.ref p.1)) >>= _) _ _ s')
    unfold setAdd
    refine wpAny_holding (wpAny_bind (wpAny_pyHash_tuple hu hx ?_))
    refine add_at (s := { s' with toks := s'.toks + (p.2.length + 1) }) hS' hx hu few fun b h' L' es' ep' t' same hS2 c1 c2 => ?_
    have old : ∀ b ob, h0.get? b = some ob → h'.get? b = some ob := fun b ob e => (same.2 b (fun z => by rw [z, hS0] at e; cases e)).trans (kp' b ob e)
    refine wpAny_pure ⟨plainId_quiet F.plain_set_update_loop _, ih (i + 1) _ (by omega) lt (W.frame _ s' _ _ st' (Nat.le_add_right _ _) fun b hb ob e => ?_) old ⟨L', es', ep', t', hS2, has1_step g hp c1 c2⟩ fun s'' L2 es2 ep2 t2 mv2 hS3 g3 kp3 => ?_⟩
    · exact (same.2 b (fun h : b = S => hSf (h ▸ hb))).trans e
    · exact hR s'' L2 es2 ep2 t2 (Moved.trans W.gtrans ((mv.mono more).then_heap (Nat.le_add_right _ _) fun b ob hb e => (same.2 b (fun h : b = S => hb (by rw [h]; exact List.mem_cons_self))).trans e) mv2) hS3 g3 kp3
end
section
variable {P : Program} {w : World} {A : Around} {E : Value → Shared → Prop} {s : Shared}
abbrev freshSet (w : World) : Obj := { cls := .type "set", dict := none, data := .set #[] 0 (.fresh 0 0 (!w.params.followText "set-order")) }
set_option maxHeartbeats 3200000 in
/-- set(xs), xs a list or a tuple -/
theorem call_set_any {l : Addr} {items : Array Value} (ks : List (Addr × List Int)) (U : List (List Int)) {Q : Value → Shared → Prop} (hh : A.handled = none) (hl : s.heap.IsList l items ∨ s.heap.IsTuple l items) (hit : items.toList = ks.map fun p => Value.ref p.1)
    (hk : ∀ p ∈ ks, IsT P w s.heap p.2 p.1) (hU : U.length < 63) (hin : ∀ p ∈ ks, p.2 ∈ U) (hu : A.units + 3 < cLine)
    (h : ∀ (h' : Heap) (tk : Nat) L es ep t, SetTR P w h' s.heap.objs.size L es ep t → Has1 ks ks.length L → (∀ b ob, s.heap.get? b = some ob → h'.get? b = some ob) → Q (.ref s.heap.objs.size) { s with heap := h', toks := tk }) :
    wpAny (model P w) A (call (.type "set") [.ref l]) Q E s := by
  have isz : items.size = ks.length := by
    have z := congrArg List.length hit
    rwa [Array.length_toList, List.length_map] at z
  obtain ⟨c, tl, hmro⟩ := F.called_set.mro
  have hmade := F.called_set.made
  have hsub := F.called_set.sub
  refine wpAny_call (codeAny_of_tree ?_)
  show wpAny (model P w) _ (callAny (Value.type "set") _) _ _ _
  refine wpAny_pure ⟨Code.quiet_builtin _ (by decide +kernel), ?_⟩
  refine codeAny_builtin F.entry_type_call ?_
  rw [Around.under_plain (weight_type_call_type "set" [.ref l] []) rfl]
  have h1 := F.called_set.notType
  have h2 := F.called_set.canCreate
  have hct := F.typeCall_set_1 (.ref l)
  repeat (any_goals (first | assumption | wp_step))
  refine codeAny_mono (code_set_led1 (.ref l) (E := E) (Q₁ := fun obj s₁ => obj = .ref s.heap.objs.size ∧ s₁ = { s with heap := s.heap.push (freshSet w) }) ⟨rfl, rfl⟩) fun r s₁ hr => ?_
  match r, hr with
  | .error e, hr => exact hr
  | .ok (.ret obj), ⟨e1, e2⟩ =>
    subst e1 e2
    have hS : (s.heap.push (freshSet w)).get? s.heap.objs.size = some (freshSet w) := Heap.get?_push_size _ rfl
    have hT : Shared.TypeIs { s with heap := s.heap.push (freshSet w) } (.ref s.heap.objs.size) "set" := ⟨_, hS, rfl⟩
    have hli := F.called_set.init.lookup
    have hbi := F.called_set.init.bind (.ref s.heap.objs.size)
    repeat (any_goals (first | assumption | wp_step))
    refine codeAny_mono (codeAny_call_builtin (R := wants (fun r s₂ => r = .none ∧ ∃ h' tk L es ep t, s₂ = { s with heap := h', toks := tk } ∧ SetTR P w h' s.heap.objs.size L es ep t ∧ Has1 ks ks.length L ∧
        (∀ b ob, s.heap.get? b = some ob → h'.get? b = some ob)) E) F.called_set.init.plain F.entry_set_init (check_set_init_1 hT ?_)) fun r₂ s₂ hr₂ => ?_
    · rcases hl with hl | hl
      · obtain ⟨⟨ocls, odict, odata, oslots⟩, hol, hcl, nl, hdl⟩ := hl
        simp only at hcl hdl
        subst hcl; subst hdl
        have hol' := Heap.get?_push_of_some (freshSet w) hol
        have hsls := F.sub_list_set
        have hslf := F.sub_list_frozenset
        have hne : (Value.type "list" == Value.type "dict") = false := by decide
        have hl1 : (s.heap.push (freshSet w)).IsList l items := ⟨_, hol', rfl, nl, rfl⟩
        unfold Builtin.«set.__init__» noKeywords Builtin.Frozenset.updateFrom
        generalize hPI : pyIter = PI
        wp_walk
        subst hPI
        refine wpAny_pyIter_list hl1 (wpAny_bind (wpAny_runValue ?_))
        have lS : l < s.heap.objs.size := Heap.lt_size hol
        have hh3 : A.in1.in1.in1.handled = none := by simp [hh]
        have z1 : (s.heap.push (freshSet w)).objs.size = s.heap.objs.size + 1 := Heap.size_push ..
        have neI : l ≠ (s.heap.push (freshSet w)).objs.size := by rw [z1]; exact Nat.ne_of_lt (Nat.lt_succ_of_lt lS)
        have hSf : s.heap.objs.size ∉ [(s.heap.push (freshSet w)).objs.size, l] := by
          rw [z1]; simp only [List.mem_cons, List.not_mem_nil, or_false, not_or]
          exact ⟨Nat.ne_of_lt (Nat.lt_succ_self _), (Nat.ne_of_lt lS).symm⟩
        have hval : ∀ (i : Nat) (v : Value), items[i]? = some v → ∃ p, ks[i]? = some p ∧ v = .ref p.1 := fun i v hv => by
          have z : items.toList[i]? = some v := by rw [Array.getElem?_toList]; exact hv
          rw [hit, List.getElem?_map] at z
          obtain ⟨p, hp, e⟩ := Option.map_eq_some_iff.mp z
          exact ⟨p, hp, e.symm⟩
        have nothing : ∀ b, s.heap.objs.size ≤ b → s.heap.get? b = none := fun b hb => Heap.get?_none_of_le hb
        refine fill_set ((Walks.list hh3 _ l neI items).toS) s.heap.objs.size hSf ks isz U hU hin hval s.heap hk (nothing _ (Nat.le_refl _)) (fun b hb => nothing b (by rw [List.mem_singleton.mp hb, z1]; exact Nat.le_succ _)) hu (items.size - 0) 0 _ (by omega) (Nat.zero_le _)
          ⟨⟨_, Heap.get?_push_size _ rfl, rfl, rfl⟩, (hl1.push _)⟩ (fun b ob e => Heap.get?_push_of_some _ (Heap.get?_push_of_some _ e)) ?hS0 ?hR
        case hS0 => exact ⟨[], #[], 0, _, setTR_fresh (Heap.get?_push_of_some _ hS), ⟨fun p hp => (List.not_mem_nil hp).elim, fun j p hj => absurd hj (Nat.not_lt_zero _)⟩⟩
        case hR =>
          intro ⟨h', g2, d', tk', os'⟩ L es ep t mv hS' g' kp
          obtain rfl : g2 = s.gens := mv.gens
          obtain rfl : d' = s.drawn := mv.drawn
          obtain rfl : os' = s.os := mv.os
          refine (wpAny_pure ?_ : wpAny _ _ _ _ _ _)
          refine (wpAny_pure ?_ : wpAny _ _ (ret Value.none) _ _ _)
          rw [isz] at g'
          exact ⟨rfl, h', tk', L, es, ep, t, rfl, hS', g', kp⟩
      · obtain ⟨⟨ocls, odict, odata, oslots⟩, hol, hcl, nl, hdl⟩ := hl
        simp only at hcl hdl
        subst hcl; subst hdl
        have hol' := Heap.get?_push_of_some (freshSet w) hol
        have hsls := F.sub_tuple_set
        have hslf := F.sub_tuple_frozenset
        have hne : (Value.type "tuple" == Value.type "dict") = false := by decide
        have hl1 : (s.heap.push (freshSet w)).IsTuple l items := ⟨_, hol', rfl, nl, rfl⟩
        unfold Builtin.«set.__init__» noKeywords Builtin.Frozenset.updateFrom
        generalize hPI : pyIter = PI
        wp_walk
        subst hPI
        refine wpAny_pyIter_tuple hl1 (wpAny_bind (wpAny_runValue ?_))
        have lS : l < s.heap.objs.size := Heap.lt_size hol
        have hh3 : A.in1.in1.in1.handled = none := by simp [hh]
        have z1 : (s.heap.push (freshSet w)).objs.size = s.heap.objs.size + 1 := Heap.size_push ..
        have neI : l ≠ (s.heap.push (freshSet w)).objs.size := by rw [z1]; exact Nat.ne_of_lt (Nat.lt_succ_of_lt lS)
        have hSf : s.heap.objs.size ∉ [(s.heap.push (freshSet w)).objs.size, l] := by
          rw [z1]; simp only [List.mem_cons, List.not_mem_nil, or_false, not_or]
          exact ⟨Nat.ne_of_lt (Nat.lt_succ_self _), (Nat.ne_of_lt lS).symm⟩
        have hval : ∀ (i : Nat) (v : Value), items[i]? = some v → ∃ p, ks[i]? = some p ∧ v = .ref p.1 := fun i v hv => by
          have z : items.toList[i]? = some v := by rw [Array.getElem?_toList]; exact hv
          rw [hit, List.getElem?_map] at z
          obtain ⟨p, hp, e⟩ := Option.map_eq_some_iff.mp z
          exact ⟨p, hp, e.symm⟩
        have nothing : ∀ b, s.heap.objs.size ≤ b → s.heap.get? b = none := fun b hb => Heap.get?_none_of_le hb
        refine fill_set ((Walks.tuple hh3 _ l neI items).toS) s.heap.objs.size hSf ks isz U hU hin hval s.heap hk (nothing _ (Nat.le_refl _)) (fun b hb => nothing b (by rw [List.mem_singleton.mp hb, z1]; exact Nat.le_succ _)) hu (items.size - 0) 0 _ (by omega) (Nat.zero_le _)
          ⟨⟨_, Heap.get?_push_size _ rfl, rfl, rfl⟩, (hl1.push _)⟩ (fun b ob e => Heap.get?_push_of_some _ (Heap.get?_push_of_some _ e)) ?hS0 ?hR
        case hS0 => exact ⟨[], #[], 0, _, setTR_fresh (Heap.get?_push_of_some _ hS), ⟨fun p hp => (List.not_mem_nil hp).elim, fun j p hj => absurd hj (Nat.not_lt_zero _)⟩⟩
        case hR =>
          intro ⟨h', g2, d', tk', os'⟩ L es ep t mv hS' g' kp
          obtain rfl : g2 = s.gens := mv.gens
          obtain rfl : d' = s.drawn := mv.drawn
          obtain rfl : os' = s.os := mv.os
          refine (wpAny_pure ?_ : wpAny _ _ _ _ _ _)
          refine (wpAny_pure ?_ : wpAny _ _ (ret Value.none) _ _ _)
          rw [isz] at g'
          exact ⟨rfl, h', tk', L, es, ep, t, rfl, hS', g', kp⟩
    · match r₂, hr₂ with
      | .error e, hr₂ => exact hr₂
      | .ok (.ret r), ⟨e1, h', tk, L, es, ep, t, e2, hS', g', hk'⟩ =>
        subst e1 e2
        repeat (any_goals (first | assumption | wp_step))
        exact h _ _ _ _ _ _ hS' g' hk'
end
end J
end

section
set_option Elab.async false
set_option linter.all false
set_option maxRecDepth 100000
/-! what is gone through at once: sorted(x), x a list, a tuple, a set of tuples, a dict with tuple keys -/
namespace J
open PySem PySem.Spec PyProof.Rows L2
section
variable {X : Cx} {pins : List (Addr × Obj)} {σ : L2.St} {H : Hp} {s : Shared} {E : Value → Shared → Prop}
/-- a thing that can be gone through, and the rows that may come of it -/
inductive Src (X : Cx) (H : Hp) : Addr → (List V → Prop) → Prop
  | lst {a : Addr} {xs : List V} : SqL X.K H a xs → Src X H a (fun ys => ys = xs)
  | tup {a : Addr} {xs : List V} : SqT X.K H a xs → Src X H a (fun ys => ys = xs)
  | keys {a : Addr} {kvs : List (List Key × V)} : Rd H a (.dT kvs) → Src X H a (fun ys => ∃ bs, IsKeys H kvs bs ∧ ys = bs.map V.ref)
  | set {a : Addr} {L : List (Addr × List Int)} : H a = some (SetTO X.prog X.w a L) → (∀ p ∈ L, SqT X.K H p.1 (p.2.map V.int)) → Src X H a (fun ys => ∃ M : List (Addr × List Int), M.Perm L ∧ ys = M.map fun p => V.ref p.1)
theorem keys_of_dT (I : Inv X pins σ H s) {d : Addr} {kvs : List (List Key × V)} (hd : Rd H d (.dT kvs)) : ∃ (bs : List Addr) (o : Obj) (es : Array DictEntry) (ep : Nat), s.heap.get? d = some o ∧ o.ExactDict ∧ o.data = .dict es ep ∧ (d == sysModules) = false ∧
    IsKeys H kvs bs ∧ es.toList.map (·.key) = bs.map Value.ref ∧ kvs.length ≤ sizeLine ∧ kvs.length = bs.length := by
  obtain ⟨z, hs, ks, pr, o, es, ep, ho, hx, hdt, he, hn⟩ := (show ObjOk X.prog X.w H s.heap d (.dT kvs) from hd.ok I.hok)
  refine ⟨ks.map fun x => x.2.1, o, es, ep, ho, hx, hdt, hs, isKeys_of pr, ?_, z, by rw [List.length_map]; exact Paired.length pr⟩
  rw [List.map_map]
  apply List.ext_getElem?
  intro j
  rw [List.getElem?_map, List.getElem?_map, Array.getElem?_toList, entry_at he j]
  cases ks[j]? <;> rfl
theorem items_at {f : Nat → Value → Prop} {acc : Array Value} {us : List Value} (h : ItemsOf f acc us.length) (hf : ∀ j v, f j v → us[j]? = some v) : acc.toList = us := by
  apply List.ext_getElem?
  intro j
  cases hj : acc.toList[j]? with
  | none =>
    have h1 := List.getElem?_eq_none_iff.mp hj
    rw [Array.length_toList, h.1] at h1
    rw [List.getElem?_eq_none h1]
  | some v => exact (hf j v (h.2 j v (by rw [← Array.getElem?_toList]; exact hj))).symm
/-- what the collecting leaves: all as it was, but for what is new -/
structure Col (X : Cx) (pins : List (Addr × Obj)) (σ : L2.St) (H : Hp) (s : Shared) (Pv : List V → Prop) (us : List Value) (s1 : Shared) : Prop where
  ex : ∃ xs, Pv xs ∧ Vals xs us ∧ xs.length ≤ sizeLine
  inv : Inv X pins σ H s1
  old : ∀ b o, s.heap.get? b = some o → s1.heap.get? b = some o
theorem collect_src {a : Addr} {Pv : List V → Prop} (hc : X.calm = true) (I : Inv X pins σ H s) (h : Src X H a Pv) {Q : List Value → Shared → Prop} (q : ∀ us s1, Col X pins σ H s Pv us s1 → Q us s1) :
    wpAny (model X.prog X.w) X.A.in1 (PySem.collect (.ref a)) Q E s := by
  have seq : ∀ {T : String} {o : Obj} {its : List Value} {n : Nat} {xs : List V}, T = "list" ∨ T = "tuple" → s.heap.get? a = some o → o.cls = .type T → o.data = .seq its.toArray n → Vals xs its → xs.length ≤ sizeLine → Pv xs →
      wpAny (model X.prog X.w) X.A.in1 (PySem.collect (.ref a)) Q E s := fun {T o its n xs} hT ho hcl hd rv hz hp =>
    wpAny_collect_seq a hT ho hcl hd (fun h' k => by
      show Q its _
      exact q its _ ⟨⟨xs, hp, rv, hz⟩, I.kept (t' := s.toks) k, k⟩) (by rw [List.size_toArray, ← rv.length]; exact hz)
  cases h with
  | lst h =>
    obtain ⟨its, rv, pl, hz⟩ := I.list h
    obtain ⟨o, ho, hcl, n, hd⟩ := pl.isList
    exact seq (.inl rfl) ho hcl hd rv hz rfl
  | tup h =>
    obtain ⟨its, rv, ⟨o, ho, hcl, n, hd⟩, hz⟩ := I.tuple h
    exact seq (.inr rfl) ho hcl hd rv hz rfl
  | keys h =>
    obtain ⟨bs, o, es, ep, ho, hx, hdt, hs, ik, hes, hz, hl⟩ := keys_of_dT I h
    have sz : es.size = bs.length := by
      have z := congrArg List.length hes
      rwa [List.length_map, List.length_map, Array.length_toList] at z
    refine PySem.W.kdu_collect (kdl_raw hs hx hdt) (I.ok.hd hc) ho (by omega) fun h' tk acc k it => ?_
    have e : acc.toList = bs.map Value.ref := items_at (us := bs.map Value.ref) (by rw [List.length_map, ← sz]; exact it) fun j v hf => by
      obtain ⟨en, h1, h2⟩ := hf
      rw [← hes, List.getElem?_map, Array.getElem?_toList, h1, h2]; rfl
    rw [e]
    exact q _ _ ⟨⟨_, ⟨bs, ik, rfl⟩, vals_refs bs, by rw [List.length_map]; omega⟩, I.kept (t' := tk) k, k⟩
  | @set L h ht =>
    have R0 : SetT0 X.prog X.w s.heap a L := (I.hok a _ h).1
    obtain ⟨es, ep, t, R⟩ := R0.full fun p hp => I.isT (ht p hp)
    obtain ⟨o, ho, hex, hd⟩ := R.ob
    have hsz := R.size
    have hfew := R.few
    refine collect_set (A := X.A.in1) (I.ok.hd hc) ⟨o, ho, hex.1, hd⟩ R.fits (by unfold scanBound; omega) R.tab.ris R.led fun s1 vs k hz g os pm => ?_
    rw [R.rows] at pm
    have pm' : vs.Perm (L.map fun p => Value.ref p.1) := by
      have z : ((rowsOf X.prog X.w L).map (·.2)) = L.map fun p => Value.ref p.1 := by
        unfold rowsOf
        rw [List.map_map]; rfl
      rw [← z]; exact pm
    obtain ⟨M, pM, eM⟩ := perm_image (fun p : Addr × List Int => Value.ref p.1) pm'
    refine q _ _ ⟨⟨_, ⟨M, pM, rfl⟩, by rw [eM]; exact vals_of_refs M, ?_⟩, I.call' (ch := []) os (Un.kept k) (I.hok.kept k) (by rw [g]; exact I.bare) (fun _ z => nomatch z), k⟩
    rw [List.length_map, pM.length_eq, sizeLine_eq]; omega
end
section
variable {prog : Program} {w : World} {A : Around} {E : Value → Shared → Prop} {s : Shared}
/-- sorted, by what the collecting leaves -/
theorem sorted_gen {a : Addr} {C : List Value → Shared → Prop} {ltv : Value → Value → Bool} {Q : Value → Shared → Prop} (O : SrtO.Swo ltv)
    (hcol : ∀ R : List Value → Shared → Prop, (∀ us s1, C us s1 → R us s1) → wpAny (model prog w) A.in1 (PySem.collect (.ref a)) R E s) (hz : ∀ us s1, C us s1 → us.length ≤ sizeLine)
    (hcmp : ∀ us s1, C us s1 → 2 ≤ us.length → ∀ (h₁ : Heap) (b : Addr), h₁.get? b = some (seqObj "list" us.toArray 0) → (∀ c o, s1.heap.get? c = some o → c ≠ b ∧ h₁.get? c = some o) → SrtO.SortableO prog w A.in1.in1 { s1 with heap := h₁ } b us ltv)
    (q : ∀ us s1 out h2 p n, C us s1 → SrtO.Srtd ltv out → out.Perm us → h2.get? p = some (seqObj "list" out.toArray n) → s1.heap.objs.size ≤ p → (∀ b o, s1.heap.get? b = some o → h2.get? b = some o) → Q (.ref p) { s1 with heap := h2 }) :
    wpAny (model prog w) A (call (.builtin "sorted") [.ref a]) Q E s := by
  refine Calls.call_function_entry PyProof.Rows.kind_sorted PyProof.Rows.plain_sorted PyProof.Rows.entry_sorted (PyProof.Rows.args_sorted1 _) ?_
  unfold Builtin.«sorted»
  refine wpAny_bind (m := checkCount "sorted" 1 1 _) (wpAny_pure ?_)
  refine wpAny_bind (hcol _ fun us s1 c => ?_)
  refine wpAny_bind (wpAny_newList ?_ (hz us s1 c))
  have hoL : (s1.heap.push (seqObj "list" us.toArray 0)).get? s1.heap.objs.size = some (seqObj "list" us.toArray 0) := Heap.get?_push_size _ rfl
  have keep : ∀ b o, s1.heap.get? b = some o → b ≠ s1.heap.objs.size ∧ (s1.heap.push (seqObj "list" us.toArray 0)).get? b = some o := fun b o e => ⟨Nat.ne_of_lt (Heap.lt_size e), Heap.get?_push_of_some _ e⟩
  refine wpAny_bind (wpAny_holding (wpAny_call_entry PyProof.Rows.slot_list_sort ⟨_, hoL, rfl⟩ PyProof.Rows.entry_list_sort (SrtO.list_sort_ord (s := { s1 with heap := s1.heap.push (seqObj "list" us.toArray 0) }) O hoL (hz us s1 c) (fun h2 => hcmp us s1 c h2 _ _ hoL keep) fun out hs hb => ⟨_, rfl, ?_⟩) (PyProof.Rows.args_list_sort _)))
  obtain ⟨n, hn⟩ := sortedHeap_at (vs := us) (out := out.toArray) hoL
  refine wpAny_pure ⟨_, rfl, q us s1 out _ _ n c hs hb.perm hn (Nat.le_refl _) fun b o e => ?_⟩
  have hlt := Heap.lt_size e
  exact (sortedHeap_old (Nat.ne_of_lt hlt) (by rw [size_push']; exact Nat.lt_succ_of_lt hlt)).trans (Heap.get?_push_of_some _ e)
end

/-! ### sorted of tuples of numbers, in any source -/
theorem sorted_one : ∀ {l m : List (List Int)}, l.Perm m → l.Pairwise (fun a b => lexLt b a = false) → m.Pairwise (fun a b => lexLt b a = false) → l = m
  | [], m, p, _, _ => (List.nil_perm.mp p).symm
  | x :: l, [], p, _, _ => absurd p.length_eq (by simp)
  | x :: l, y :: m, p, hl, hm => by
    obtain ⟨hx, hl'⟩ := List.pairwise_cons.mp hl
    obtain ⟨hy, hm'⟩ := List.pairwise_cons.mp hm
    have e : x = y := by
      rcases List.mem_cons.mp (p.mem_iff.mp List.mem_cons_self) with e | e
      · exact e
      · rcases List.mem_cons.mp (p.mem_iff.mpr List.mem_cons_self) with e2 | e2
        · exact e2.symm
        · exact lex_tri x y (hy x e) (hx y e2)
    subst e
    rw [sorted_one (List.Perm.cons_inv p) hl' hm']
section
variable {X : Cx}
/-- the tuples stand there -/
def TupAt (H : Hp) (ks : List (Addr × List Int)) : Prop := ∀ p ∈ ks, H p.1 = some (.tup (p.2.map V.int))
def refsV (ks : List (Addr × List Int)) : List V := ks.map fun p => V.ref p.1
def rSortS (X : Cx) : List V → Hp → VK → Prop := fun vs H Q => ∃ (a : Addr) (Pv : List V → Prop) (d : Nat), vs = [V.ref a] ∧ Src X H a Pv ∧ (∀ ys, Pv ys → ∃ ks, ys = refsV ks ∧ TupAt H ks ∧ (∀ p ∈ ks, p.2.length = d) ∧ (2 ≤ ks.length → 1 ≤ d) ∧
  ∀ (L : List (Addr × List Int)) (q : Addr), L.Perm ks → L.Pairwise (fun x y => lexLt y.2 x.2 = false) → H q = none → Q (.ref q) (upd H q (.lst (refsV L))))
theorem cr_sortS (hc : X.calm = true) : CallR X (.builtin "sorted") (rSortS X) := by
  intro pins s σ H vs us Q I r h
  obtain ⟨a, Pv, d, rfl, hS, hv⟩ := h
  rw [Vals.ref1 r]
  -- the values, as what stands at them in s
  refine sorted_gen (ltv := fun v u => lexLt (TS.intsOf s.heap v) (TS.intsOf s.heap u)) (C := fun us s1 => Col X pins σ H s Pv us s1) (NtL.swo_lexL _) (fun R hR => collect_src hc I hS hR) (fun us s1 C => ?_) (fun us s1 C h2 h₁ b hb kk => ?_) fun us s1 out h2 p n C hs hp hn hlt k2 => ?_
  · obtain ⟨xs, _, rv, z⟩ := C.ex
    rw [← rv.length]; exact z
  · obtain ⟨xs, hx, rv, z⟩ := C.ex
    obtain ⟨ks, rfl, ht, hd, hd1, _⟩ := hv xs hx
    have eu : us = ks.map fun p => Value.ref p.1 := refs_of_vals rv
    have l2 : us.length = ks.length := by rw [eu, List.length_map]
    refine sortable_ints (s := { s1 with heap := h₁ }) (fun v => TS.intsOf s.heap v) (hd1 (by omega)) (by omega) (fun v hm => ?_) fun o e => ?_
    · rw [eu] at hm
      obtain ⟨p, hp, rfl⟩ := List.mem_map.mp hm
      have t0 := Inv.tupI I (SqT.of (K := X.K) (ht p hp))
      show TS.TupInts h₁ (.ref p.1) (TS.intsOf s.heap (.ref p.1)) ∧ (TS.intsOf s.heap (.ref p.1)).length = d
      rw [t0.ints]
      exact ⟨t0.keeps fun b o e _ => (kk b o (C.old b o e)).2, hd p hp⟩
    · have e' : some o = some (seqObj "list" us.toArray 0) := e.symm.trans hb
      cases e'
      intro c
      exact absurd (Value.type.inj c) (by decide)
  · obtain ⟨xs, hx, rv, z⟩ := C.ex
    obtain ⟨ks, rfl, ht, hd, hd1, q⟩ := hv xs hx
    have eu : us = ks.map fun p => Value.ref p.1 := refs_of_vals rv
    rw [eu] at hp
    obtain ⟨L, pL, eL⟩ := perm_image (fun p : Addr × List Int => Value.ref p.1) hp
    have hlen : (refsV L).length ≤ sizeLine := by
      unfold refsV at z ⊢
      rw [List.length_map] at z ⊢
      rw [pL.length_eq]; exact z
    have hf : H p = none := C.inv.hok.fresh hlt
    refine ⟨.ref p, upd H p (.lst (refsV L)), C.inv.laid (t' := s1.toks) k2 hlt ⟨hlen, out, n, ?_, hn⟩, rfl, q L p pL ?_ hf⟩
    · rw [eL]; exact vals_of_refs L
    · rw [eL] at hs
      refine List.Pairwise.imp_of_mem (fun {x y} hx hy hle => ?_) (List.pairwise_map.mp hs)
      have e1 := (Inv.tupI I (SqT.of (K := X.K) (ht x (pL.mem_iff.mp hx)))).ints
      have e2 := (Inv.tupI I (SqT.of (K := X.K) (ht y (pL.mem_iff.mp hy)))).ints
      rw [← e1, ← e2]
      exact hle
/-- set(xs) of any many tuples of numbers, with fewer than 63 unlike ones -/
def rSetS (X : Cx) : List V → Hp → VK → Prop := fun xs H Q => ∃ (l : Addr) (ks : List (Addr × List Int)) (U : List (List Int)), xs = [V.ref l] ∧ (SqL X.K H l (refsV ks) ∨ SqT X.K H l (refsV ks)) ∧ TupAt H ks ∧ U.length < 63 ∧ (∀ p ∈ ks, p.2 ∈ U) ∧
  ∀ a L, H a = none → (∀ p ∈ L, p ∈ ks) → (∀ p ∈ ks, p.2 ∈ L.map (·.2)) → (L.map (·.2)).Nodup → Q (.ref a) (upd H a (SetTO X.prog X.w a L))
theorem cr_setS (hc : X.calm = true) (hu : X.A.units + 3 < cLine) : CallR X (.type "set") (rSetS X) := by
  intro pins s σ H xs us Q I r h
  obtain ⟨l, ks, U, rfl, hl, ht, hU, hin, q⟩ := h
  rw [Vals.ref1 r]
  have hn : H s.heap.objs.size = none := I.hok.fresh (Nat.le_refl _)
  have go : ∀ {its : List Value}, Vals (refsV ks) its → (s.heap.IsList l its.toArray ∨ s.heap.IsTuple l its.toArray) → wpAny (model X.prog X.w) X.A (call (.type "set") [.ref l]) (EP X pins σ Q) X.xe s := fun {its} rv hs => by
    refine call_set_any (P := X.prog) (w := X.w) ks U (I.ok.hd hc) hs (by simpa using refs_of_vals rv) (fun p hp => I.isT (SqT.of (ht p hp))) hU hin hu fun h' tk L es ep t R g k => ?_
    refine ⟨.ref s.heap.objs.size, upd H s.heap.objs.size (SetTO X.prog X.w s.heap.objs.size L), I.laid (t' := tk) k (Nat.le_refl _) (setTO_new R.t0), rfl, q _ L hn g.inn (fun p hp => ?_) R.nd⟩
    obtain ⟨j, hj⟩ := List.getElem?_of_mem hp
    exact g.all j p (by
      have := List.getElem?_eq_some_iff.mp hj
      exact this.1) hj
  rcases hl with hl | hl
  · obtain ⟨its, rv, pl, hz⟩ := I.list hl
    exact go rv (.inl pl.isList)
  · obtain ⟨its, rv, pl, hz⟩ := I.tuple hl
    exact go rv (.inr (by obtain ⟨o, ho, hcl, n, hd⟩ := pl; exact ⟨o, ho, hcl, n, hd⟩))
end
end J
end

section
set_option Elab.async false
set_option linter.all false
set_option maxRecDepth 100000
/-! sorted(x), sorted(set(x)) in data -/
namespace J
open PySem PySem.Spec PyProof.Rows L2
/-- a state, as data; as a key -/
def stD (s : List Int) : D := .tup (s.map .int)
def ky (s : List Int) : List Key := s.map Sum.inl
theorem ky_inj : ∀ {a b : List Int}, ky a = ky b → a = b
  | [], [], _ => rfl
  | [], _ :: _, h => nomatch h
  | _ :: _, [], h => nomatch h
  | x :: a, y :: b, h => by
    unfold ky at h
    rw [List.map_cons, List.map_cons] at h
    injection h with h1 h2
    rw [Sum.inl.inj h1, ky_inj h2]
section
variable {X : Cx} {γ : Sto} {o o1 : Own} {K : PySem.W.Frag} {Hb F H : Hp}
/-- what gives states, one by one -/
inductive ManyI : D → List (List Int) → Prop
  | of {d : D} {xs : List (List Int)} : Many d (xs.map stD) → ManyI d xs
  | keys {kvs : List (List Key × D)} {xs : List (List Int)} : kvs.map (·.1) = xs.map ky → ManyI (.dT kvs) xs
theorem den_st {v : V} {s : List Int} (h : Den K H v (stD s)) : ∃ a, v = .ref a ∧ H a = some (.tup (s.map V.int)) := by
  cases h with
  | tup h l => exact ⟨_, rfl, by rw [l.ints_inv] at h; exact h⟩
theorem denL_st : ∀ {vs : List V} {xs : List (List Int)}, DenL K H vs (xs.map stD) → ∃ ks : List (Addr × List Int), vs = refsV ks ∧ ks.map (·.2) = xs ∧ TupAt H ks
  | _, [], .nil => ⟨[], rfl, rfl, fun _ h => nomatch h⟩
  | _, x :: xs, .cons h l => by
    obtain ⟨a, rfl, e⟩ := den_st h
    obtain ⟨ks, rfl, e2, t⟩ := denL_st l
    exact ⟨(a, x) :: ks, rfl, congrArg (x :: ·) e2, fun p hp => by
      rcases List.mem_cons.mp hp with rfl | hp
      · exact e
      · exact t p hp⟩
theorem TupAt.mono {H' : Hp} {ks : List (Addr × List Int)} (e : Ex H H') (t : TupAt H ks) : TupAt H' ks := fun p hp => e _ _ (t p hp)
theorem keys_st {ws : List (List Key × V)} : ∀ {bs : List Addr} {xs : List (List Int)}, ws.map (·.1) = xs.map ky → IsKeys H ws bs → ∃ ks : List (Addr × List Int), bs.map V.ref = refsV ks ∧ ks.map (·.2) = xs ∧ TupAt H ks := by
  intro bs xs e ik
  unfold IsKeys at ik
  induction ik generalizing xs with
  | nil =>
    cases xs with
    | nil => exact ⟨[], rfl, rfl, fun _ h => nomatch h⟩
    | cons x xs => cases e
  | @cons p b ws bs h t ih =>
    cases xs with
    | nil => cases e
    | cons x xs =>
      rw [List.map_cons, List.map_cons] at e
      injection e with e1 e2
      obtain ⟨ks, e3, e4, t4⟩ := ih e2
      refine ⟨(b, x) :: ks, by unfold refsV at e3 ⊢; rw [List.map_cons, List.map_cons, e3], congrArg (x :: ·) e4, fun q hq => ?_⟩
      rcases List.mem_cons.mp hq with rfl | hq
      · rw [e1] at h
        unfold ky at h
        rw [List.map_map] at h
        exact h
      · exact t4 q hq
theorem DenT.keys : ∀ {ws : List (List Key × V)} {kvs : List (List Key × D)}, DenT K H ws kvs → ws.map (·.1) = kvs.map (·.1)
  | _, _, .nil => rfl
  | _, _, .cons _ l => congrArg (_ :: ·) l.keys
theorem DenL.st : ∀ {ks : List (Addr × List Int)}, TupAt H ks → DenL K H (refsV ks) ((ks.map (·.2)).map stD)
  | [], _ => .nil
  | p :: ks, t => .cons (.tup (t p List.mem_cons_self) (.ints _)) (DenL.st fun q hq => t q (List.mem_cons_of_mem _ hq))
/-- tuples that are there become data -/
theorem Wd.seenL {o : Own} (w : Wd K Hb F o H) : ∀ {ks : List (Addr × List Int)}, TupAt H ks → ∃ Hb', Ex Hb Hb' ∧ Wd K Hb' F o H ∧ TupAt Hb' ks
  | [], _ => ⟨Hb, Ex.refl _, w, fun _ h => nomatch h⟩
  | p :: ks, t => by
    obtain ⟨Hb1, e1, w1, t1⟩ := Wd.seenL w (ks := ks) fun q hq => t q (List.mem_cons_of_mem _ hq)
    obtain ⟨e2, w2⟩ := w1.seen (t p List.mem_cons_self)
    refine ⟨_, e1.trans e2, w2, fun q hq => ?_⟩
    rcases List.mem_cons.mp hq with rfl | hq
    · exact upd_same
    · exact e2 _ _ (t1 q hq)
/-- the source of what is sorted -/
theorem src_of {v : V} {d : D} {xs : List (List Int)} (w : Wd X.K Hb F o H) (n : Den X.K Hb v d) (m : ManyI d xs) : ∃ a Pv, v = .ref a ∧ Src X H a Pv ∧ ∀ ys, Pv ys → ∃ ks, ys = refsV ks ∧ ks.map (·.2) = xs ∧ TupAt H ks := by
  cases m with
  | of m =>
    have fin : ∀ {vs : List V} {a : Addr}, DenL X.K Hb vs (xs.map stD) → ∀ ys, ys = vs → ∃ ks, ys = refsV ks ∧ ks.map (·.2) = xs ∧ TupAt H ks := fun l ys e => by
      obtain ⟨ks, e1, e2, t⟩ := denL_st l
      exact ⟨ks, e.trans e1, e2, t.mono w.b⟩
    cases m with
    | tup => cases n with | @tup a _ _ h1 l => exact ⟨_, _, rfl, .tup (SqT.of (w.b _ _ h1)), fin (a := a) l⟩
    | ptup => cases n with | @ptup a _ _ _ h1 _ _ l => exact ⟨_, _, rfl, .tup (.inl (.inr ⟨_, w.b _ _ h1⟩)), fin (a := a) l⟩
    | wt => cases n with | @wt a _ _ h1 l => exact ⟨_, _, rfl, .tup (w.b.sqt h1), fin (a := a) l⟩
    | lst => cases n with | @lst a _ _ h1 l => exact ⟨_, _, rfl, .lst (SqL.of (w.b _ _ h1)), fin (a := a) l⟩
    | sl => cases n with | @sl a _ _ h1 l => exact ⟨_, _, rfl, .lst (w.b.sql h1), fin (a := a) l⟩
  | keys e =>
    cases n with
    | dT h l => exact ⟨_, _, rfl, .keys (.inr ⟨_, w.b _ _ h⟩), fun ys hy => by
        obtain ⟨bs, ik, rfl⟩ := hy
        exact keys_st (l.keys.trans e) ik⟩
theorem perm_seconds {ks L : List (Addr × List Int)} (p : L.Perm ks) : (L.map (·.2)).Perm (ks.map (·.2)) := p.map _
/-- sorted(x): ys is what it must be -/
theorem blt_sorted {d : D} {xs ys : List (List Int)} {k : Nat} (hc : X.calm = true) (m : ManyI d xs) (hk : ∀ x ∈ xs, x.length = k) (h1 : 2 ≤ xs.length → 1 ≤ k) (hp : ys.Perm xs) (hs : ys.Pairwise fun a b => lexLt b a = false) : BltD X "sorted" o [d] (.lst (ys.map stD)) := ⟨_, cr_sortS hc, fun Hb F H vs Q w l q => by
  obtain ⟨v, rfl, n⟩ := denL1 l
  obtain ⟨a, Pv, rfl, S, hv⟩ := src_of w n m
  refine ⟨a, Pv, k, rfl, S, fun zs hz => ?_⟩
  obtain ⟨ks, rfl, e, t⟩ := hv zs hz
  refine ⟨ks, rfl, t, fun p hp => hk _ (by rw [← e]; exact List.mem_map_of_mem hp), fun h2 => h1 (by rw [← e, List.length_map]; exact h2), fun L p pL sL hf => ?_⟩
  have e2 : L.map (·.2) = ys := sorted_one ((perm_seconds pL).trans (by rw [e]; exact hp.symm)) (List.pairwise_map.mpr sL) hs
  obtain ⟨Hb1, e1, w1, t1⟩ := w.seenL t
  obtain ⟨w2, e3⟩ := w1.new (u := .lst (refsV L)) hf
  refine q _ _ _ (e1.trans e3) w2 (.lst upd_same ?_)
  rw [← e2]
  exact (DenL.st (fun p hp => t1 p (pL.mem_iff.mp hp))).mono e3⟩
/-- sorted(set(x)) -/
theorem re_sortedSet {e : Expr} {d : D} {xs U : List (List Int)} {k : Nat} {pos pos' p p' : Pos} (hc : X.calm = true) (hu : X.A.units + 3 < cLine) (hms : X.mg "sorted" = none) (hmt : X.mg "set" = none) (ha : RE X e γ o d o1) (ht : d = .lst (xs.map stD) ∨ d = .tup (xs.map stD))
    (hk : ∀ x ∈ xs, x.length = k) (h1 : 1 ≤ k) (hU : U.length < 63) (hx : ∀ x ∈ xs, x ∈ U) (hg : Gl X "sorted" := by rfl) (hg' : Gl X "set" := by rfl)
    (he : starEach [e] X.env = (false, eval e X.env) :: starEach [] X.env := by rfl)
    (he' : starEach [.Call (.Name "set" p') [e] [] pos'] X.env = (false, eval (.Call (.Name "set" p') [e] [] pos') X.env) :: starEach [] X.env := by rfl) :
    RE X (.Call (.Name "sorted" p) [.Call (.Name "set" p') [e] [] pos'] [] pos) γ o (.lst ((sortA xs).map stD)) o1 :=
  ⟨PE.imp (pe_callB (cr_sortS hc) hg hms (by decide +kernel) (pa_cons (pe_callTy (cr_setS hc hu) hg' hmt (by decide +kernel) (pa_cons ha.p pa_nil he) (he := he)) pa_nil he') (he := he')) fun σ H Q ⟨Hb, F, w, s, q⟩ => ⟨Hb, F, w, s, fun x Hb1 H1 e1 w1 n1 => by
    have fin : ∀ {l : Addr} {vs : List V}, DenL X.K Hb1 vs (xs.map stD) → (SqL X.K H1 l vs ∨ SqT X.K H1 l vs) → x = .ref l → rSetS X [x] H1 (fun v H2 => rSortS X [v] H2 Q) := fun {l vs} dl hs ex => by
      obtain ⟨ks, rfl, ek, t⟩ := denL_st dl
      have t1 := t.mono w1.b
      refine ⟨l, ks, U, by rw [ex], hs, t1, hU, fun p hp => hx _ (by rw [← ek]; exact List.mem_map_of_mem hp), fun a L hf hL hA hN => ?_⟩
      obtain ⟨w2, e2⟩ := w1.new (u := SetTO X.prog X.w a L) hf
      have t2 : TupAt (upd H1 a (SetTO X.prog X.w a L)) ks := fun p hp => w2.b _ _ (e2 _ _ (t p hp))
      refine ⟨a, _, k, rfl, .set upd_same (fun p hp => SqT.of (t2 p (hL p hp))), fun ys hy => ?_⟩
      obtain ⟨M, pM, rfl⟩ := hy
      have inM : ∀ p ∈ M, p ∈ ks := fun p hp => hL p (pM.mem_iff.mp hp)
      refine ⟨M, rfl, fun p hp => t2 p (inM p hp), fun p hp => hk _ (by rw [← ek]; exact List.mem_map_of_mem (inM p hp)), fun _ => h1, fun N b pN sN hb => ?_⟩
      obtain ⟨w3, e3⟩ := w2.new (u := .lst (refsV N)) hb
      have inN : ∀ p ∈ N, p ∈ ks := fun p hp => inM p (pN.mem_iff.mp hp)
      have eN : N.map (·.2) = sortA xs := by
        have pp : (N.map (·.2)).Perm (L.map (·.2)) := perm_seconds (pN.trans pM)
        refine sortA_of (asc_of (List.pairwise_map.mpr sN) (pp.nodup_iff.mpr hN)) fun y => ?_
        rw [pp.mem_iff, ← ek]
        constructor
        · intro hy
          obtain ⟨p, hp, e⟩ := List.mem_map.mp hy
          rw [← e]; exact List.mem_map_of_mem (hL p hp)
        · intro hy
          obtain ⟨p, hp, e⟩ := List.mem_map.mp hy
          rw [← e]; exact hA p hp
      refine q _ _ _ ((e1.trans e2).trans e3) w3 (.lst upd_same ?_)
      rw [← eN]
      exact (DenL.st (H := Hb1) fun p hp => t p (inN p hp)).mono (e2.trans e3)
    rcases ht with rfl | rfl
    · cases n1 with | lst h l => exact fin l (.inl (SqL.of (w1.b _ _ h))) rfl
    · cases n1 with | tup h l => exact fin l (.inr (SqT.of (w1.b _ _ h))) rfl⟩⟩
end
end J
end

section
set_option Elab.async false
set_option linter.all false
set_option maxRecDepth 100000
/-! sorted of rows of a frame: (name, low, high) -/
namespace J
open PySem PySem.Spec PyProof.Rows L2
abbrev Row := Str × Int × Int
abbrev Fr := List Row
def rowD (r : Row) : D := .tup [.str r.1, .int r.2.1, .int r.2.2]
def rowV (r : Row) : List V := [.str r.1, .int r.2.1, .int r.2.2]
def frD (f : Fr) : D := .tup (f.map rowD)
/-- the name by its letters, an end below all letters, the two numbers -/
def rowK (r : Row) : List Int := (r.1.cps.toList.map fun c : Nat => (c : Int) + 1) ++ [0, r.2.1, r.2.2]
theorem lex_same (p : List Int) (a b : List Int) : lexLt (p ++ a) (p ++ b) = lexLt a b := by
  induction p with
  | nil => rfl
  | cons x p ih =>
    rw [List.cons_append, List.cons_append, lexLt, HT.lexLt_cons, if_pos rfl]
    exact ih
theorem lex_names : ∀ {a b : List Nat} (u v : List Int), a ≠ b → lexLt ((a.map fun c : Nat => (c : Int) + 1) ++ 0 :: u) ((b.map fun c : Nat => (c : Int) + 1) ++ 0 :: v) = decide (a < b)
  | [], [], _, _, h => absurd rfl h
  | [], y :: b, u, v, _ => by
    rw [List.map_nil, List.nil_append, List.map_cons, List.cons_append, lexLt, HT.lexLt_cons, if_neg (by omega)]
    rw [decide_eq_true (show (0 : Int) < (y : Int) + 1 by omega), decide_eq_true (show ([] : List Nat) < y :: b by simp)]
  | x :: a, [], u, v, _ => by
    rw [List.map_nil, List.nil_append, List.map_cons, List.cons_append, lexLt, HT.lexLt_cons, if_neg (by omega)]
    rw [decide_eq_false (show ¬ ((x : Int) + 1 < 0) by omega), decide_eq_false (show ¬ (x :: a < ([] : List Nat)) by simp)]
  | x :: a, y :: b, u, v, h => by
    rw [List.map_cons, List.cons_append, List.map_cons, List.cons_append, lexLt, HT.lexLt_cons]
    by_cases e : x = y
    · subst e
      rw [if_pos rfl]
      rw [show HT.lexLt = lexLt from rfl, lex_names u v (fun z => h (by rw [z]))]
      congr 1
      simp [List.cons_lt_cons_iff]
    · rw [if_neg (by omega)]
      have : (x :: a < y :: b) ↔ x < y := by rw [List.cons_lt_cons_iff]; omega
      by_cases c : x < y
      · rw [decide_eq_true (show (x : Int) + 1 < (y : Int) + 1 by omega), decide_eq_true (this.mpr c)]
      · rw [decide_eq_false (show ¬ ((x : Int) + 1 < (y : Int) + 1) by omega), decide_eq_false (fun z => c (this.mp z))]
theorem lex_three (a b i j i' j' : Int) : lexLt [a, i, j] [b, i', j'] = if a = b then (if i = i' then decide (j < j') else decide (i < i')) else decide (a < b) := by
  rw [lexLt, HT.lexLt_cons]
  by_cases e : a = b
  · rw [if_pos e, if_pos e, HT.lexLt_cons]
    by_cases e2 : i = i'
    · rw [if_pos e2, if_pos e2, HT.lexLt_cons]
      by_cases e3 : j = j'
      · rw [if_pos e3, e3, decide_eq_false (by omega)]
        rfl
      · rw [if_neg e3]
    · rw [if_neg e2, if_neg e2]
  · rw [if_neg e, if_neg e]
theorem rowK_lt (r t : Row) : lexLt (rowK r) (rowK t) = if r.1 = t.1 then (if r.2.1 = t.2.1 then decide (r.2.2 < t.2.2) else decide (r.2.1 < t.2.1)) else decide (r.1.cps.toList < t.1.cps.toList) := by
  unfold rowK
  by_cases e : r.1 = t.1
  · rw [if_pos e, e, lex_same, lex_three, if_pos rfl]
  · rw [if_neg e]
    exact lex_names _ _ fun z => e (by
      cases h : r.1
      cases h' : t.1
      rw [h, h'] at z
      exact congrArg Str.mk (Array.ext' z))
theorem rowK_inj {r t : Row} (h : rowK r = rowK t) : r = t := by
  obtain ⟨x, i, j⟩ := r
  obtain ⟨y, k, l⟩ := t
  have irr : ∀ a : List Int, lexLt a a = false := fun a => by
    cases q : lexLt a a with
    | false => rfl
    | true => have := NtL.lex_asym a a q; rw [← this, ← q]
  by_cases e : x = y
  · subst e
    unfold rowK at h
    have h2 := List.append_cancel_left h
    injection h2 with _ h3
    injection h3 with h4 h5
    injection h5 with h6 _
    rw [show i = k from h4, show j = l from h6]
  · exfalso
    have l1 := rowK_lt (x, i, j) (y, k, l)
    have l2 := rowK_lt (y, k, l) (x, i, j)
    rw [h] at l1 l2
    rw [irr, if_neg e] at l1
    rw [irr, if_neg (Ne.symm e)] at l2
    have a := of_decide_eq_false l1.symm
    have b := of_decide_eq_false l2.symm
    refine e ?_
    have z : x.cps.toList = y.cps.toList := List.le_antisymm b a
    cases x; cases y
    exact congrArg Str.mk (Array.ext' z)
/-- a row stands there -/
def RowAt (h : Heap) (v : Value) (r : Row) : Prop := ∃ a xs t u q, v = .ref a ∧ IsTup h a xs ∧ xs.toList = [.str r.1 t, .int r.2.1 u, .int r.2.2 q]
theorem RowAt.keeps {h h' : Heap} {v : Value} {r : Row} (x : RowAt h v r) (k : ∀ b o, h.get? b = some o → o.cls = .type "tuple" → h'.get? b = some o) : RowAt h' v r := by
  obtain ⟨a, xs, t, u, q, e, ⟨o, ho, hc, n, hd⟩, l⟩ := x
  exact ⟨a, xs, t, u, q, e, ⟨o, k a o ho hc, hc, n, hd⟩, l⟩
theorem RowAt.one {h : Heap} {v : Value} {r t : Row} (x : RowAt h v r) (y : RowAt h v t) : r = t := by
  obtain ⟨a, xs, _, _, _, rfl, ⟨o, ho, hc, n, hd⟩, l⟩ := x
  obtain ⟨a', xs', _, _, _, e, ⟨o', ho', hc', n', hd'⟩, l'⟩ := y
  cases e
  rw [ho] at ho'; cases ho'
  rw [hd] at hd'; injection hd' with e1 _
  rw [e1, l'] at l
  injection l with l1 l2
  injection l2 with l2 l3
  injection l3 with l3 _
  injection l1 with l1 _
  injection l2 with l2 _
  injection l3 with l3 _
  obtain ⟨x, i, j⟩ := r
  obtain ⟨y, k, l⟩ := t
  simp only at l1 l2 l3
  rw [l1, l2, l3]
open Classical in
noncomputable def rowOf (h : Heap) (v : Value) : List Int := if x : ∃ r, RowAt h v r then rowK x.choose else []
theorem RowAt.key {h : Heap} {v : Value} {r : Row} (x : RowAt h v r) : rowOf h v = rowK r := by
  have e : ∃ r, RowAt h v r := ⟨r, x⟩
  unfold rowOf
  rw [dif_pos e, e.choose_spec.one x]
section
variable {prog : Program} {w : World} {A : Around} {s : Shared}
theorem row_lt {v u : Value} {r t : Row} (hv : RowAt s.heap v r) (hu : RowAt s.heap u t) : wpAny (model prog w) A (keyLt' (tuples' true) v u) (fun c s' => s' = s ∧ c = lexLt (rowK r) (rowK t)) (fun _ _ => False) s := by
  obtain ⟨a, xs, t1, t2, t3, rfl, ⟨o, ho, hc, n, hd⟩, l⟩ := hv
  obtain ⟨a', xs', u1, u2, u3, rfl, ⟨o', ho', hc', n', hd'⟩, l'⟩ := hu
  refine PySem.W.kat_lt ho hd ho' hd' ?_
  have z1 := congrArg List.length l
  have z2 := congrArg List.length l'
  rw [Array.length_toList] at z1 z2
  rw [show decide (xs.size < xs'.size) = false from decide_eq_false (by rw [z1, z2]; exact Nat.lt_irrefl _), l, l', rowK_lt]
  refine PySem.W.kat_cons (wpAny_eqBool_str ?_)
  by_cases e : r.1 = t.1
  · rw [if_pos e, decide_eq_true e]
    refine PySem.W.kat_yes (PySem.W.kat_cons (wpAny_eqBool_int ?_))
    by_cases e2 : r.2.1 = t.2.1
    · rw [if_pos e2, beq_iff_eq.mpr e2]
      refine PySem.W.kat_yes (PySem.W.kat_cons (wpAny_eqBool_int ?_))
      by_cases e3 : r.2.2 = t.2.2
      · rw [beq_iff_eq.mpr e3, decide_eq_false (by rw [e3]; exact Int.lt_irrefl _)]
        exact PySem.W.kat_yes (PySem.W.kat_nil ⟨rfl, rfl⟩)
      · rw [beq_eq_false_iff_ne.mpr e3]
        exact PySem.W.kat_no (TS.oneLt_ints _ ⟨rfl, rfl⟩)
    · rw [if_neg e2, beq_eq_false_iff_ne.mpr e2]
      exact PySem.W.kat_no (TS.oneLt_ints _ ⟨rfl, rfl⟩)
  · rw [if_neg e, decide_eq_false e]
    exact PySem.W.kat_no (oneLt_str ⟨rfl, rfl⟩)
theorem firsts_row {h : Heap} : ∀ vs : List Value, (∀ v ∈ vs, ∃ r, RowAt h v r) → ∃ fs, PySem.W.KatTups h vs fs ∧ fs.length = vs.length ∧ ∀ f ∈ fs, ∃ x t, f = Value.str x t
  | [], _ => ⟨[], .nil, rfl, fun f hf => (List.not_mem_nil hf).elim⟩
  | v :: vs, x => by
    obtain ⟨fs, k, hl, hi⟩ := firsts_row vs fun u hu => x u (List.mem_cons_of_mem _ hu)
    obtain ⟨r, a, xs, t, u, q, rfl, ⟨o, ho, hc, n, hd⟩, l⟩ := x v List.mem_cons_self
    refine ⟨Value.str r.1 t :: fs, PySem.W.KatTups.cons ho hc hd ?_ k, congrArg (· + 1) hl, fun f hf => ?_⟩
    · have z := congrArg (fun l : List Value => l[0]?) l
      simpa using z
    · rcases List.mem_cons.mp hf with rfl | hf
      · exact ⟨_, t, rfl⟩
      · exact hi f hf
theorem sortable_rows {a : Addr} {vs : List Value} (k : Value → List Int) (h0 : 0 < vs.length) (hp : ∀ v ∈ vs, ∃ r, RowAt s.heap v r ∧ k v = rowK r) (ha : ∀ o, s.heap.get? a = some o → o.cls ≠ .type "tuple") :
    SrtO.SortableO prog w A s a vs fun v u => lexLt (k v) (k u) := by
  intro h' keep
  have hp' : ∀ v ∈ vs, ∃ r, RowAt h' v r ∧ k v = rowK r := fun v hv => by
    obtain ⟨r, x, e⟩ := hp v hv
    exact ⟨r, x.keeps fun b o e c => keep b o (fun z => by subst z; exact ha o e c) e, e⟩
  obtain ⟨fs, h1, h2, h3⟩ := firsts_row (h := h') vs fun v hv => (hp' v hv).imp fun _ x => x.1
  refine ⟨tuples' true, fun Q E hq => ?_, fun p q hm hm' => ?_⟩
  · refine PySem.W.kat_kind (T := .type "str") h1 (by omega) (fun f hf => ?_) rfl ?_
    · obtain ⟨x, t, rfl⟩ := h3 f hf
      exact PySem.W.Looks.now
    · rw [show (Value.type "str" != Value.type "tuple") = true by decide +kernel]
      exact hq
  · obtain ⟨r, x, e⟩ := hp' _ hm
    obtain ⟨t, y, e'⟩ := hp' _ hm'
    show wpAny (model prog w) A (keyLt' (tuples' true) p.1 q.1) (fun c s' => s' = { s with heap := h' } ∧ c = lexLt (k p.1) (k q.1)) (fun _ _ => False) { s with heap := h' }
    rw [e, e']
    exact row_lt (s := { s with heap := h' }) x y
end
section
variable {X : Cx}
def RowsAt (H : Hp) (ks : List (Addr × Row)) : Prop := ∀ p ∈ ks, H p.1 = some (.tup (rowV p.2))
def refsR (ks : List (Addr × Row)) : List V := ks.map fun p => V.ref p.1
theorem refs_of_valsR : ∀ {ks : List (Addr × Row)} {us : List Value}, Vals (refsR ks) us → us = ks.map fun p => Value.ref p.1
  | [], _, .nil => rfl
  | p :: ks, _, .cons r t => by
    cases r
    rw [refs_of_valsR t] <;> rfl
theorem vals_of_refsR : ∀ (ks : List (Addr × Row)), Vals (refsR ks) (ks.map fun p => Value.ref p.1)
  | [] => .nil
  | p :: ks => .cons rfl (vals_of_refsR ks)
theorem Inv.rowAt {pins : List (Addr × Obj)} {σ : L2.St} {H : Hp} {s : Shared} {b : Addr} {r : Row} (I : Inv X pins σ H s) (h : H b = some (.tup (rowV r))) : RowAt s.heap (.ref b) r := by
  obtain ⟨its, rv, tp, _⟩ := I.tuple (SqT.of h)
  unfold rowV at rv
  cases rv with
  | cons r1 rv =>
    cases rv with
    | cons r2 rv =>
      cases rv with
      | cons r3 rv =>
        cases rv
        obtain ⟨t, rfl⟩ := r1
        obtain ⟨u, rfl⟩ := r2
        obtain ⟨q, rfl⟩ := r3
        exact ⟨b, _, t, u, q, rfl, tp, rfl⟩
def rSortR (X : Cx) : List V → Hp → VK → Prop := fun vs H Q => ∃ (a : Addr) (ks : List (Addr × Row)), vs = [V.ref a] ∧ (SqT X.K H a (refsR ks) ∨ SqL X.K H a (refsR ks)) ∧ RowsAt H ks ∧
  ∀ (L : List (Addr × Row)) (q : Addr), L.Perm ks → L.Pairwise (fun x y => lexLt (rowK y.2) (rowK x.2) = false) → H q = none → Q (.ref q) (upd H q (.lst (refsR L)))
theorem cr_sortR (hc : X.calm = true) : CallR X (.builtin "sorted") (rSortR X) := by
  intro pins s σ H vs us Q I r h
  obtain ⟨a, ks, rfl, hS, ht, q⟩ := h
  have hsrc : Src X H a (fun ys => ys = refsR ks) := by
    rcases hS with hS | hS
    · exact .tup hS
    · exact .lst hS
  rw [Vals.ref1 r]
  have at0 : ∀ p ∈ ks, RowAt s.heap (.ref p.1) p.2 := fun p hp => Inv.rowAt I (ht p hp)
  refine sorted_gen (ltv := fun v u => lexLt (rowOf s.heap v) (rowOf s.heap u)) (C := fun us s1 => Col X pins σ H s (fun ys => ys = refsR ks) us s1) (NtL.swo_lexL _) (fun R hR => collect_src hc I hsrc hR) (fun us s1 C => ?_) (fun us s1 C h2 h₁ b hb kk => ?_) fun us s1 out h2 p n C hs hp hn hlt k2 => ?_
  · obtain ⟨xs, _, rv, z⟩ := C.ex
    rw [← rv.length]; exact z
  · obtain ⟨xs, rfl, rv, z⟩ := C.ex
    have eu := refs_of_valsR rv
    refine sortable_rows (s := { s1 with heap := h₁ }) (fun v => rowOf s.heap v) (by omega) (fun v hm => ?_) fun o e => ?_
    · rw [eu] at hm
      obtain ⟨p, hp, rfl⟩ := List.mem_map.mp hm
      exact ⟨p.2, (at0 p hp).keeps fun b o e _ => (kk b o (C.old b o e)).2, (at0 p hp).key⟩
    · have e' : some o = some (seqObj "list" us.toArray 0) := e.symm.trans hb
      cases e'
      intro c
      exact absurd (Value.type.inj c) (by decide)
  · obtain ⟨xs, rfl, rv, z⟩ := C.ex
    have eu := refs_of_valsR rv
    rw [eu] at hp
    obtain ⟨L, pL, eL⟩ := perm_image (fun p : Addr × Row => Value.ref p.1) hp
    have hlen : (refsR L).length ≤ sizeLine := by
      unfold refsR at z ⊢
      rw [List.length_map] at z ⊢
      rw [pL.length_eq]; exact z
    have hf : H p = none := C.inv.hok.fresh hlt
    refine ⟨.ref p, upd H p (.lst (refsR L)), C.inv.laid (t' := s1.toks) k2 hlt ⟨hlen, out, n, ?_, hn⟩, rfl, q L p pL ?_ hf⟩
    · rw [eL]; exact vals_of_refsR L
    · rw [eL] at hs
      refine List.Pairwise.imp_of_mem (fun {x y} hx hy hle => ?_) (List.pairwise_map.mp hs)
      have e1 := (at0 x (pL.mem_iff.mp hx)).key
      have e2 := (at0 y (pL.mem_iff.mp hy)).key
      rw [← e1, ← e2]
      exact hle
variable {o : Own} {K : PySem.W.Frag} {H : Hp}
theorem den_row {v : V} {r : Row} (h : Den K H v (rowD r)) : ∃ a, v = .ref a ∧ H a = some (.tup (rowV r)) := by
  unfold rowD at h
  cases h with
  | tup h l =>
    cases l with
    | cons h1 l =>
      cases l with
      | cons h2 l =>
        cases l with
        | cons h3 l =>
          cases l; cases h1; cases h2; cases h3
          exact ⟨_, rfl, h⟩
theorem denL_row : ∀ {vs : List V} {xs : Fr}, DenL K H vs (xs.map rowD) → ∃ ks : List (Addr × Row), vs = refsR ks ∧ ks.map (·.2) = xs ∧ RowsAt H ks
  | _, [], .nil => ⟨[], rfl, rfl, fun _ h => nomatch h⟩
  | _, x :: xs, .cons h l => by
    obtain ⟨a, rfl, e⟩ := den_row h
    obtain ⟨ks, rfl, e2, t⟩ := denL_row l
    exact ⟨(a, x) :: ks, rfl, congrArg (x :: ·) e2, fun p hp => by
      rcases List.mem_cons.mp hp with rfl | hp
      · exact e
      · exact t p hp⟩
theorem DenL.rows : ∀ {ks : List (Addr × Row)}, RowsAt H ks → DenL K H (refsR ks) ((ks.map (·.2)).map rowD)
  | [], _ => .nil
  | p :: ks, t => .cons (.tup (t p List.mem_cons_self) (.cons (.str _) (.cons (.int _) (.cons (.int _) .nil)))) (DenL.rows fun q hq => t q (List.mem_cons_of_mem _ hq))
/-- rows in their order -/
def AscR (f : Fr) : Prop := f.Pairwise fun a b => lexLt (rowK b) (rowK a) = false
theorem ascR_one {l m : Fr} (p : l.Perm m) (hl : AscR l) (hm : AscR m) : l = m := by
  have e : l.map rowK = m.map rowK := sorted_one (p.map _) (List.pairwise_map.mpr hl) (List.pairwise_map.mpr hm)
  have inj : ∀ {a b : Fr}, a.map rowK = b.map rowK → a = b := by
    intro a
    induction a with
    | nil => intro b h; cases b with | nil => rfl | cons _ _ => cases h
    | cons x a ih =>
      intro b h
      cases b with
      | nil => cases h
      | cons y b =>
        rw [List.map_cons, List.map_cons] at h
        injection h with h1 h2
        rw [rowK_inj h1, ih h2]
  exact inj e
theorem blt_sortedR {xs ys : Fr} (hc : X.calm = true) (hp : ys.Perm xs) (hs : AscR ys) : BltD X "sorted" o [frD xs] (.lst (ys.map rowD)) := ⟨_, cr_sortR hc, fun Hb F H vs Q w l q => by
  obtain ⟨v, rfl, n⟩ := denL1 l
  unfold frD at n
  cases n with
  | tup h1 l =>
    obtain ⟨ks, rfl, e, t⟩ := denL_row l
    refine ⟨_, ks, rfl, .inl (SqT.of (w.b _ _ h1)), fun p hp => w.b _ _ (t p hp), fun L p pL sL hf => ?_⟩
    have e2 : L.map (·.2) = ys := ascR_one ((pL.map _).trans (by rw [e]; exact hp.symm)) (List.pairwise_map.mpr sL) hs
    obtain ⟨w2, e3⟩ := w.new (u := .lst (refsR L)) hf
    refine q _ _ _ e3 w2 (.lst upd_same ?_)
    rw [← e2]
    exact (DenL.rows fun p hp => t p (pL.mem_iff.mp hp)).mono e3⟩
end
end J
end

section
set_option Elab.async false
set_option linter.all false
set_option maxRecDepth 100000
/-! dict(l), l a list of pairs whose firsts are tuples -/
namespace J
open PySem PySem.Spec PyProof.Rows L2
abbrev mk (P : Program) (w : World) := tupleKind (mixKind P w)
/-- the rows put one by one -/
def putAll (acc : List (List Key × Addr × Value)) : List (List Key × Addr × Value) → List (List Key × Addr × Value)
  | [] => acc
  | q :: r => putAll (storedH acc q.1 q.2.1 q.2.2) r
theorem storedH_len (xs : List (List Key × Addr × Value)) (k : List Key) (a : Addr) (v : Value) : (storedH xs k a v).length ≤ xs.length + 1 := by
  unfold storedH
  split
  · rw [List.length_map]; exact Nat.le_succ _
  · rw [List.length_append]; exact Nat.le_refl _
section
variable {P : Program} {w : World} {A : Around} {E : Value → Shared → Prop} {R : Result → Shared → Prop} {S I l : Addr} {items : Array Value} {res : Value}
/-- a pair and its key stand there -/
def PairAt (P : Program) (w : World) (h : Heap) (S I : Addr) (v : Value) (q : List Key × Addr × Value) : Prop :=
  ∃ b, v = .ref b ∧ b ≠ S ∧ b ≠ I ∧ IsTup h b #[.ref q.2.1, q.2.2] ∧ q.2.1 ≠ S ∧ q.2.1 ≠ I ∧ (mk P w).is h q.1 q.2.1
theorem PairAt.keeps {h h' : Heap} {v : Value} {q : List Key × Addr × Value} (x : PairAt P w h S I v q) (k : ∀ b o, b ≠ S → b ≠ I → h.get? b = some o → h'.get? b = some o) : PairAt P w h' S I v q := by
  obtain ⟨b, e, h1, h2, ⟨o, ho, hc, n, hd⟩, h3, h4, o2, its, n2, ho2, r⟩ := x
  exact ⟨b, e, h1, h2, ⟨o, k b o h1 h2 ho, hc, n, hd⟩, h3, h4, o2, its, n2, k _ o2 h3 h4 ho2, r⟩
theorem loopT (hh : A.handled = none) (hu : A.units + 1 < cLine) (n1 : l ≠ I) (n2 : S ≠ I) (n3 : S ≠ l) :
    ∀ (rest : List (List Key × Addr × Value)) (i : Nat) (acc : List (List Key × Addr × Value)) (ix : Int) (t : Tok) (s : Shared), items.size = i + rest.length → acc.length + rest.length ≤ sizeLine →
      (∀ (j : Nat) (q : List Key × Addr × Value), rest[j]? = some q → ∃ v, items[i + j]? = some v ∧ PairAt P w s.heap S I v q) → s.heap.IsListIter I l i → s.heap.IsList l items → s.heap.DictOfH (mk P w) S acc →
      (∀ h' tk, h'.DictOfH (mk P w) S (putAll acc rest) → (∀ b o, b ≠ S → b ≠ I → s.heap.get? b = some o → h'.get? b = some o) → R (.ok (.ret res)) { s with heap := h', toks := tk }) →
      codeAny (model P w) A (.builtin "dict.update.loop" ⟨[.ref S, .ref I, .int ix t, res], []⟩) R s := by
  intro rest
  induction rest with
  | nil =>
    intro i acc ix t s hsz _ _ it il dd done
    refine codeAny_builtin ud_entry ?_
    rw [Around.under_plainId ud_plain _]
    refine (wpAny_bind (wpAny_pyNext_list_end (A := A.in1) hh it il (Array.getElem?_eq_none (Nat.le_of_eq hsz)) fun h' he => ?_) : wpAny _ A.in1 (pyNext (.ref I) >>= _) _ _ s)
    show wpAny (model P w) A.in1 (Builtin.Dict.addKeywords S [] >>= _) _ _ _
    refine wpAny_bind (wpAny_pure (wpAny_pure ?_))
    obtain ⟨o, es, ep, ho, r1, r2, r3, r4, r5⟩ := dd
    refine done h' s.toks ⟨o, es, ep, he S o n2 ho, r1, r2, r3, fun x hx => ?_, r5⟩ fun b o _ hb e => he b o hb e
    obtain ⟨o2, its, m, ho2, hr⟩ := r4 x hx
    refine ⟨o2, its, m, he _ o2 (fun z => ?_) ho2, hr⟩
    obtain ⟨oi, hoi, ci, _⟩ := it
    rw [z, hoi] at ho2
    cases ho2
    rw [ci] at hr
    exact absurd (Value.type.inj hr.1) (by decide)
  | cons q rest ih =>
    intro i acc ix t s hsz hln ht it il dd done
    obtain ⟨v, hv, b, rfl, bS, bI, htup, kS, kI, hk⟩ := ht 0 q rfl
    rw [List.length_cons] at hsz hln
    refine codeAny_builtin ud_entry ?_
    rw [Around.under_plainId ud_plain _]
    refine (wpAny_bind (wpAny_pyNext_list_item (x := .ref b) it il (by simpa using hv) fun h1 it1 sb1 => ?_) : wpAny _ A.in1 (pyNext (.ref I) >>= _) _ _ s)
    have keep1 : ∀ c o, c ≠ I → s.heap.get? c = some o → h1.get? c = some o := fun c o hc e => sb1.extBut c o hc e
    obtain ⟨o, ho, hc, n, hd⟩ := id htup
    have ho1 := keep1 b o bI ho
    have dd1 : h1.DictOfH (mk P w) S acc := by
      obtain ⟨od, es, ep, hod, r1, r2, r3, r4, r5⟩ := dd
      refine ⟨od, es, ep, keep1 S od n2 hod, r1, r2, r3, fun x hx => ?_, r5⟩
      obtain ⟨o2, its, m, ho2, hr⟩ := r4 x hx
      refine ⟨o2, its, m, keep1 _ o2 (fun z => ?_) ho2, hr⟩
      obtain ⟨oi, hoi, ci, _⟩ := it
      rw [z, hoi] at ho2
      cases ho2
      rw [ci] at hr
      exact absurd (Value.type.inj hr.1) (by decide)
    have hk1 : (mk P w).is h1 q.1 q.2.1 := by
      obtain ⟨o2, its, m, ho2, hr⟩ := hk
      exact ⟨o2, its, m, keep1 _ o2 kI ho2, hr⟩
    show wpAny (model P w) A.in1 (holding [Value.ref b] _ >>= _) _ _ _
    refine wpAny_bind (wpAny_holding (wpAny_bind (wpAny_tryCatch ?_)))
    unfold Builtin.Dict.pairItems
    refine wpAny_bind (wpAny_typeOf (T := "tuple") ⟨o, ho1, hc⟩ ?_)
    rw [if_pos (by first | decide | rfl | simp)]
    refine wpAny_bind (wpAny_seqItems ho1 hd (wpAny_pure ?_))
    show wpAny (model P w) A.in1 (holding [Value.ref q.2.1, q.2.2] (dictSet S (.ref q.2.1) q.2.2)) _ _ _
    refine wpAny_holding (wpAny_dictSet_heap (knd := mk P w) (hsz := by omega) hu hk1 dd1 fun h2 dd2 sb2 => ?_)
    have keep2 : ∀ c o, c ≠ S → c ≠ I → s.heap.get? c = some o → h2.get? c = some o := fun c o hS hI e => sb2.extBut c o hS (keep1 c o hI e)
    refine wpAny_pure ⟨plainId_quiet ud_plain _, ih (i + 1) (storedH acc q.1 q.2.1 q.2.2) (ix + 1) 0 _ (by show items.size = i + 1 + rest.length; omega) ?_ (fun j p e => ?_) (it1.at fun o' e => sb2.extBut I o' (Ne.symm n2) e) ?_ dd2 fun h' tk dd' k => ?_⟩
    · have z := storedH_len acc q.1 q.2.1 q.2.2
      omega
    · obtain ⟨v', hv', pa⟩ := ht (j + 1) p (by simpa using e)
      exact ⟨v', by rw [show i + 1 + j = i + (j + 1) by omega]; exact hv', pa.keeps keep2⟩
    · exact (il.extBut sb1.extBut n1).extBut sb2.extBut (Ne.symm n3)
    · exact done h' tk dd' fun c o hS hI e => k c o hS hI (keep2 c o hS hI e)
/-- dict(l) -/
theorem call_dictT {s : Shared} {ol : Obj} {n : Nat} {prs : List (List Key × Addr × Value)} {Q : Value → Shared → Prop} (hh : A.handled = none) (hu : A.units + 3 < cLine) (hl : s.heap.get? l = some ol) (hc : ol.cls = .type "list") (hd : ol.dict = none)
    (hdat : ol.data = .seq items n) (hsz : items.size = prs.length) (hln : prs.length ≤ sizeLine)
    (ht : ∀ (j : Nat) (q : List Key × Addr × Value), prs[j]? = some q → ∃ b : Addr, items[j]? = some (Value.ref b) ∧ IsTup s.heap b #[.ref q.2.1, q.2.2] ∧ (mk P w).is s.heap q.1 q.2.1)
    (h : ∀ h' tk, h'.DictOfH (mk P w) s.heap.objs.size (putAll [] prs) → (∀ b o, s.heap.get? b = some o → h'.get? b = some o) → Q (.ref s.heap.objs.size) { s with heap := h', toks := tk }) :
    wpAny (model P w) A (call (.type "dict") [.ref l]) Q E s := by
  refine callType_codes (Q₁ := fun obj s₁ => obj = .ref s.heap.objs.size ∧ s₁ = { s with heap := s.heap.push { cls := .type "dict", data := .dict #[] } }) PySem.F.kt_called_dict (PySem.F.kt_typeCall_dict_1 _) PySem.F.entry_dict_init (kt_code_dict_new _ ⟨rfl, rfl⟩) fun obj s₁ hs₁ => ?_
  obtain ⟨rfl, rfl⟩ := hs₁
  have fresh : (s.heap.push { cls := .type "dict", data := .dict #[] }).DictOfH (mk P w) s.heap.objs.size [] := Heap.DictOfH.new s.heap
  have k0 : ∀ b o, s.heap.get? b = some o → (s.heap.push { cls := .type "dict", data := .dict #[] }).get? b = some o := fun b o e => Heap.get?_push_of_some _ e
  refine ⟨fresh.typeIs, PySem.F.args_dict_init_2 _ _, ?_⟩
  unfold Builtin.«dict.__init__»
  refine wpAny_bind ?_
  unfold Builtin.Dict.selfAndRest
  refine wpAny_bind (wpAny_notOrdered_dict fresh.typeIs ?_)
  refine (wpAny_pure ?_ : wpAny _ _ (pure (s.heap.objs.size, [Value.ref l])) _ _ _)
  show wpAny _ _ (Builtin.Dict.updateFrom "dict.__init__" s.heap.objs.size (.ref l) [] .none) _ _ _
  unfold Builtin.Dict.updateFrom
  refine wpAny_bind (wpAny_typeOf (T := "list") ⟨ol, k0 _ _ hl, hc⟩ ?_)
  rw [if_pos (by first | decide | rfl | simp)]
  refine wpAny_bind (miss_list (k0 _ _ hl) hc hdat hd hh fun h1 tk1 k1 => ?_)
  rw [if_pos (show (none : Option Value).isNone = true from rfl)]
  refine wpAny_bind (wpAny_rule ?_)
  have il : h1.IsList l items := ⟨ol, k1 _ _ (k0 _ _ hl), hc, n, hdat⟩
  have lt1 : s.heap.objs.size < h1.objs.size := Heap.lt_size (k1 _ _ (Heap.get?_push_size _ rfl : (s.heap.push { cls := .type "dict", data := .dict #[] }).get? s.heap.objs.size = some { cls := .type "dict", data := .dict #[] }))
  refine wpAny_bind (wpAny_pyIter_list il ?_)
  have all : ∀ b o, s.heap.get? b = some o → (h1.push { cls := .type "list_iterator", data := .fields #[.ref l, .int 0 0] }).get? b = some o := fun b o e => Heap.get?_push_of_some _ (k1 b o (k0 b o e))
  have lo : ∀ {b o}, s.heap.get? b = some o → b ≠ s.heap.objs.size ∧ b ≠ h1.objs.size := fun e => ⟨Nat.ne_of_lt (Heap.lt_size e), Nat.ne_of_lt (Nat.lt_trans (Heap.lt_size e) lt1)⟩
  have key := loopT (P := P) (w := w) (A := A.in1) (R := wants (fun r s₂ => r = .none ∧ Q (.ref s.heap.objs.size) s₂) E) (S := s.heap.objs.size) (I := h1.objs.size) (l := l) (items := items) (res := Value.none) hh (Nat.lt_of_succ_lt hu)
    (lo hl).2 (Nat.ne_of_lt lt1) (Ne.symm (lo hl).1) prs 0 [] 0 0 { s with heap := h1.push { cls := .type "list_iterator", data := .fields #[.ref l, .int 0 0] }, toks := tk1 } (by rw [hsz, Nat.zero_add]) (by rw [List.length_nil, Nat.zero_add]; exact hln)
    (fun j q e => by
      obtain ⟨b, e1, ⟨o, ho, r⟩, o2, its, m, ho2, r2⟩ := ht j q e
      exact ⟨.ref b, by rw [Nat.zero_add]; exact e1, b, rfl, (lo ho).1, (lo ho).2, ⟨o, all b o ho, r⟩, (lo ho2).1, (lo ho2).2, o2, its, m, all _ o2 ho2, r2⟩)
    ⟨_, Heap.get?_push_size _ rfl, rfl, rfl⟩ (il.at fun o e => Heap.get?_push_of_some _ e)
    (by
      obtain ⟨o, es, ep, ho, r1, r2, r3, r4, r5⟩ := fresh
      exact ⟨o, es, ep, Heap.get?_push_of_some _ (k1 _ o ho), r1, r2, r3, fun x hx => (List.not_mem_nil hx).elim, r5⟩)
    (fun h' tk dd' k => ⟨rfl, h h' tk dd' fun b o e => k b o (lo e).1 (lo e).2 (all b o e)⟩)
  first
    | exact wpAny_pure ⟨plainId_quiet ud_plain _, key⟩
    | exact wpAny_bind (wpAny_pure (wpAny_pure ⟨plainId_quiet ud_plain _, key⟩))
end
end J
end

section
set_option Elab.async false
set_option linter.all false
set_option maxRecDepth 100000
/-! dicts in data, one's own things: made, written, given away -/
namespace J
open PySem PySem.Spec PyProof.Rows L2

/-! ### rows of a dict -/
section
variable {κ : Type} [DecidableEq κ]
def putD (kvs : List (κ × D)) (k : κ) (d : D) : List (κ × D) :=
  if (kvs.any fun kv => decide (kv.1 = k)) = true then kvs.map (fun kv => if kv.1 = k then (kv.1, d) else kv) else kvs ++ [(k, d)]
def dropD (kvs : List (κ × D)) (k : κ) : List (κ × D) := kvs.filter fun kv => decide (kv.1 ≠ k)
def mergeD (kvs more : List (κ × D)) : List (κ × D) := more.foldl (fun acc kv => putD acc kv.1 kv.2) kvs
theorem putD_new {kvs : List (κ × D)} {k : κ} {d : D} (h : k ∉ kvs.map (·.1)) : putD kvs k d = kvs ++ [(k, d)] := by
  unfold putD
  rw [if_neg]
  intro z
  obtain ⟨q, hq, e⟩ := List.any_eq_true.mp z
  exact h (by rw [← of_decide_eq_true e]; exact List.mem_map_of_mem hq)
theorem mergeD_nodup : ∀ (more kvs : List (κ × D)), ((kvs ++ more).map (·.1)).Nodup → mergeD kvs more = kvs ++ more
  | [], kvs, _ => (List.append_nil kvs).symm
  | p :: r, kvs, h => by
    have hn : p.1 ∉ kvs.map (·.1) := by
      rw [List.map_append, List.map_cons, List.nodup_append] at h
      exact fun z => h.2.2 _ z _ List.mem_cons_self rfl
    show mergeD (putD kvs p.1 p.2) r = _
    rw [putD_new hn, mergeD_nodup r _ (by rw [List.append_assoc]; exact h), List.append_assoc]
    rfl
theorem valD_map {κ' : Type} [DecidableEq κ'] {f : κ' → κ} (hf : ∀ {a b}, f a = f b → a = b) (k : κ') : ∀ m : List (κ' × D), valD (m.map fun p => (f p.1, p.2)) (f k) = valD m k
  | [] => rfl
  | p :: r => by
    by_cases c : p.1 = k
    · unfold valD
      rw [List.map_cons, List.find?_cons_of_pos (by simp [c]), List.find?_cons_of_pos (by simpa using c)]; rfl
    · have c' : ¬ f p.1 = f k := fun e => c (hf e)
      have ih := valD_map hf k r
      unfold valD at ih ⊢
      rw [List.map_cons, List.find?_cons_of_neg (by simpa using c'), List.find?_cons_of_neg (by simpa using c), ih]
theorem putD_map {κ' : Type} [DecidableEq κ'] {f : κ' → κ} (hf : ∀ {a b}, f a = f b → a = b) (k : κ') (d : D) (m : List (κ' × D)) : putD (m.map fun p => (f p.1, p.2)) (f k) d = (putD m k d).map fun p => (f p.1, p.2) := by
  have e : ((m.map fun p => (f p.1, p.2)).any fun kv => decide (kv.1 = f k)) = m.any fun kv => decide (kv.1 = k) := by
    rw [List.any_map]
    congr 1
    funext p
    exact decide_eq_decide.mpr ⟨hf, fun e => by show f p.1 = f k; rw [e]⟩
  unfold putD
  rw [e]
  split
  · rw [List.map_map, List.map_map]
    apply List.map_congr_left
    intro p _
    show (if f p.1 = f k then (f p.1, d) else (f p.1, p.2)) = (fun q : κ' × D => (f q.1, q.2)) (if p.1 = k then (p.1, d) else p)
    by_cases c : p.1 = k
    · rw [if_pos (by rw [c]), if_pos c]
    · rw [if_neg (fun e => c (hf e)), if_neg c]
  · rw [List.map_append]; rfl
theorem dropD_map {κ' : Type} [DecidableEq κ'] {f : κ' → κ} (hf : ∀ {a b}, f a = f b → a = b) (k : κ') (m : List (κ' × D)) : dropD (m.map fun p => (f p.1, p.2)) (f k) = (dropD m k).map fun p => (f p.1, p.2) := by
  unfold dropD
  rw [List.filter_map]
  congr 1
  congr 1
  funext p
  exact decide_eq_decide.mpr ⟨fun h e => h (by show f p.1 = f k; rw [e]), fun h e => h (hf e)⟩
end
section
variable {K : PySem.W.Frag} {H : Hp}
theorem DenT.len : ∀ {ws : List (List Key × V)} {kvs : List (List Key × D)}, DenT K H ws kvs → ws.length = kvs.length
  | _, _, .nil => rfl
  | _, _, .cons _ l => congrArg (· + 1) l.len
theorem DenK.len : ∀ {ws : List (Key × V)} {kvs : List (Key × D)}, DenK K H ws kvs → ws.length = kvs.length
  | _, _, .nil => rfl
  | _, _, .cons _ l => congrArg (· + 1) l.len
theorem DenT.any (k : List Key) : ∀ {ws : List (List Key × V)} {kvs : List (List Key × D)}, DenT K H ws kvs → (ws.any fun kv => decide (kv.1 = k)) = kvs.any fun kv => decide (kv.1 = k)
  | _, _, .nil => rfl
  | _, _, .cons _ l => by rw [List.any_cons, List.any_cons, l.any k]
theorem DenK.any (k : Key) : ∀ {ws : List (Key × V)} {kvs : List (Key × D)}, DenK K H ws kvs → (ws.any fun kv => decide (kv.1 = k)) = kvs.any fun kv => decide (kv.1 = k)
  | _, _, .nil => rfl
  | _, _, .cons _ l => by rw [List.any_cons, List.any_cons, l.any k]
theorem DenT.repl {v : V} {d : D} (k : List Key) (h : Den K H v d) : ∀ {ws : List (List Key × V)} {kvs : List (List Key × D)}, DenT K H ws kvs → DenT K H (ws.map fun kv => if kv.1 = k then (kv.1, v) else kv) (kvs.map fun kv => if kv.1 = k then (kv.1, d) else kv)
  | _, _, .nil => .nil
  | _, _, .cons (k := k') g l => by
    rw [List.map_cons, List.map_cons]
    by_cases c : k' = k
    · rw [if_pos c, if_pos c]; exact .cons h (l.repl k h)
    · rw [if_neg c, if_neg c]; exact .cons g (l.repl k h)
theorem DenK.repl {v : V} {d : D} (k : Key) (h : Den K H v d) : ∀ {ws : List (Key × V)} {kvs : List (Key × D)}, DenK K H ws kvs → DenK K H (ws.map fun kv => if kv.1 = k then (kv.1, v) else kv) (kvs.map fun kv => if kv.1 = k then (kv.1, d) else kv)
  | _, _, .nil => .nil
  | _, _, .cons (k := k') g l => by
    rw [List.map_cons, List.map_cons]
    by_cases c : k' = k
    · rw [if_pos c, if_pos c]; exact .cons h (l.repl k h)
    · rw [if_neg c, if_neg c]; exact .cons g (l.repl k h)
theorem DenT.snoc {v : V} {d : D} (k : List Key) (h : Den K H v d) : ∀ {ws : List (List Key × V)} {kvs : List (List Key × D)}, DenT K H ws kvs → DenT K H (ws ++ [(k, v)]) (kvs ++ [(k, d)])
  | _, _, .nil => .cons h .nil
  | _, _, .cons g l => .cons g (l.snoc k h)
theorem DenK.snoc {v : V} {d : D} (k : Key) (h : Den K H v d) : ∀ {ws : List (Key × V)} {kvs : List (Key × D)}, DenK K H ws kvs → DenK K H (ws ++ [(k, v)]) (kvs ++ [(k, d)])
  | _, _, .nil => .cons h .nil
  | _, _, .cons g l => .cons g (l.snoc k h)
theorem DenT.put {v : V} {d : D} {ws : List (List Key × V)} {kvs : List (List Key × D)} (l : DenT K H ws kvs) (k : List Key) (h : Den K H v d) : DenT K H (putK ws k v) (putD kvs k d) := by
  unfold putK putD
  rw [l.any k]
  split
  · exact l.repl k h
  · exact l.snoc k h
theorem DenK.put {v : V} {d : D} {ws : List (Key × V)} {kvs : List (Key × D)} (l : DenK K H ws kvs) (k : Key) (h : Den K H v d) : DenK K H (putK ws k v) (putD kvs k d) := by
  unfold putK putD
  rw [l.any k]
  split
  · exact l.repl k h
  · exact l.snoc k h
theorem DenT.drop (k : List Key) : ∀ {ws : List (List Key × V)} {kvs : List (List Key × D)}, DenT K H ws kvs → DenT K H (dropK ws k) (dropD kvs k)
  | _, _, .nil => .nil
  | _, _, .cons (k := k') (v := v) (d := d) (ws := ws) (kvs := kvs) g l => by
    by_cases c : k' = k
    · have e1 : dropK ((k', v) :: ws) k = dropK ws k := List.filter_cons_of_neg (by simp [c])
      have e2 : dropD ((k', d) :: kvs) k = dropD kvs k := List.filter_cons_of_neg (by simp [c])
      rw [e1, e2]; exact l.drop k
    · have e1 : dropK ((k', v) :: ws) k = (k', v) :: dropK ws k := List.filter_cons_of_pos (by simp [c])
      have e2 : dropD ((k', d) :: kvs) k = (k', d) :: dropD kvs k := List.filter_cons_of_pos (by simp [c])
      rw [e1, e2]; exact .cons g (l.drop k)
def mergeT (ws more : List (List Key × V)) : List (List Key × V) := more.foldl (fun acc kv => putK acc kv.1 kv.2) ws
theorem DenT.merge : ∀ {more : List (List Key × V)} {mods : List (List Key × D)} {ws : List (List Key × V)} {kvs : List (List Key × D)}, DenT K H more mods → DenT K H ws kvs → DenT K H (mergeT ws more) (mergeD kvs mods)
  | _, _, _, _, .nil, l => l
  | _, _, _, _, .cons (k := k) h m, l => by
    have z := DenT.merge m (l.put k h)
    exact z
theorem DenK.merge : ∀ {more : List (Key × V)} {mods : List (Key × D)} {ws : List (Key × V)} {kvs : List (Key × D)}, DenK K H more mods → DenK K H ws kvs → DenK K H (mergeK ws more) (mergeD kvs mods)
  | _, _, _, _, .nil, l => l
  | _, _, _, _, .cons (k := k) h m, l => by
    have z := DenK.merge m (l.put k h)
    exact z
end

/-! ### dict(l) -/
section
variable {X : Cx}
theorem KT.merge {H : Hp} : ∀ {more : List (List Key × V)} {xs : List (List Key × Addr × Value)} {ws : List (List Key × V)} {ys : List (List Key × Addr × Value)}, KT H more xs → KT H ws ys → KT H (mergeT ws more) (putAll ys xs) := by
  intro more xs ws ys r
  unfold KT at r
  induction r generalizing ws ys with
  | nil => exact fun q => q
  | @cons p q ps qs h t ih =>
    intro r0
    obtain ⟨h1, h2, h3⟩ := h
    have e := KT.put r0 p.1 (b := q.2.1) h2 h3
    rw [show putAll ys (q :: qs) = putAll (storedH ys q.1 q.2.1 q.2.2) qs from rfl, ← h1]
    exact ih e
/-- the pairs at ps, by the heap -/
inductive PrT (K : PySem.W.Frag) (H : Hp) : List Addr → List (List Key × V) → Prop
  | nil : PrT K H [] []
  | cons {p b : Addr} {k : List Key} {v : V} {ps : List Addr} {kvs : List (List Key × V)} : SqT K H p [.ref b, v] → H b = some (.tup (k.map kV)) → PrT K H ps kvs → PrT K H (p :: ps) ((k, v) :: kvs)
theorem PrT.at' {pins : List (Addr × Obj)} {σ : L2.St} {H : Hp} {s : Shared} (I : Inv X pins σ H s) : ∀ {ps : List Addr} {kvs : List (List Key × V)}, PrT X.K H ps kvs → ∃ prs : List (List Key × Addr × Value), KT H kvs prs ∧ prs.length = ps.length ∧
    ∀ (j : Nat) (q : List Key × Addr × Value), prs[j]? = some q → ∃ b : Addr, ps[j]? = some b ∧ IsTup s.heap b #[.ref q.2.1, q.2.2] ∧ (mk X.prog X.w).is s.heap q.1 q.2.1
  | _, _, .nil => ⟨[], .nil, rfl, fun j q e => by simp at e⟩
  | _, _, .cons (p := p) (b := b) (k := k) h hb t => by
    obtain ⟨prs, r, hl, hp⟩ := PrT.at' I t
    obtain ⟨its, rv, ht, _⟩ := I.tuple h
    obtain ⟨u, y, rfl, ru, ry⟩ := vals2 rv
    cases ru
    refine ⟨(k, b, y) :: prs, .cons ⟨rfl, hb, ry⟩ r, by rw [List.length_cons, List.length_cons, hl], fun j q e => ?_⟩
    cases j with
    | zero => cases e; exact ⟨p, rfl, ht, key_of I.hok hb⟩
    | succ j => exact hp j q (by simpa using e)
theorem putAll_len : ∀ (r acc : List (List Key × Addr × Value)), (putAll acc r).length ≤ acc.length + r.length
  | [], acc => Nat.le_refl _
  | q :: r, acc => by
    have h1 := putAll_len r (storedH acc q.1 q.2.1 q.2.2)
    have h2 := storedH_len acc q.1 q.2.1 q.2.2
    show (putAll (storedH acc q.1 q.2.1 q.2.2) r).length ≤ _
    rw [List.length_cons]; omega
/-- dict(xs), tuples as keys; the dict is locked, for good -/
theorem cr_dictT (hc : X.calm = true) (hu : X.A.units + 3 < cLine) : CallR X (.type "dict") (fun xs H Q => ∃ (a : Addr) (ps : List Addr) (kvs : List (List Key × V)), xs = [.ref a] ∧ SqL X.K H a (ps.map V.ref) ∧ PrT X.K H ps kvs ∧
    ∀ p od, H p = none → Q (.ref p) (upd H p (.frz od (.dT (mergeT [] kvs))))) := by
  intro pins s σ H xs us Q I r h
  obtain ⟨a, ps, kvs, rfl, hq, hp, q⟩ := h
  rw [Vals.ref1 r]
  obtain ⟨its, rv, pl, hz⟩ := I.list hq
  have ei := refs_at rv
  rw [List.length_map] at hz
  obtain ⟨prs, rel, hl, hpr⟩ := PrT.at' I hp
  obtain ⟨o, n, ho, hcl, hd, hdat⟩ := pl
  rw [ei] at hdat
  refine call_dictT (P := X.prog) (w := X.w) (prs := prs) (I.ok.hd hc) hu ho hcl hd hdat (by simp [hl]) (by rw [hl]; exact hz) (fun j q' e => ?_) fun h' tk dd k => ?_
  · obtain ⟨b, e1, e2, e3⟩ := hpr j q' e
    exact ⟨b, by simp [e1], e2, e3⟩
  · have hm : (s.heap.objs.size == sysModules) = false := beq_eq_false_iff_ne.mpr (Nat.ne_of_gt I.big)
    have hf : H s.heap.objs.size = none := I.hok.fresh (Nat.le_refl _)
    have rel2 : KT H (mergeT [] kvs) (putAll [] prs) := KT.merge rel .nil
    have hlen : (mergeT [] kvs).length ≤ sizeLine := by
      have z := putAll_len prs []
      rw [Paired.length rel2]
      rw [List.length_nil, Nat.zero_add, hl] at z
      omega
    obtain ⟨od, es, ep, h1, h2, h3, h4, _, h5⟩ := dd
    have I1 : Inv X pins σ (upd H s.heap.objs.size (.dT (mergeT [] kvs))) { s with heap := h', toks := tk } :=
      I.laid (t' := tk) k (Nat.le_refl _) (show ObjOk X.prog X.w _ _ _ (.dT (mergeT [] kvs)) from ⟨hlen, hm, _, rel2.keeps fun c ys ec => (by rw [upd_ne (ne_of_none ec hf)]; exact ec), od, es, ep, h1, h2, h3, h4, h5⟩)
    obtain ⟨od', I2⟩ := I1.lock upd_same True.intro
    refine ⟨.ref s.heap.objs.size, _, I2, rfl, ?_⟩
    rw [show upd (upd H s.heap.objs.size (HO.dT (mergeT [] kvs))) s.heap.objs.size (.frz od' (.dT (mergeT [] kvs))) = upd H s.heap.objs.size (.frz od' (.dT (mergeT [] kvs))) from funext fun c => by
      by_cases e : c = s.heap.objs.size
      · rw [e, upd_same, upd_same]
      · rw [upd_ne e, upd_ne e, upd_ne e]]
    exact q _ od' hf
/-- the same, ints and texts as keys -/
theorem cr_dictK (hc : X.calm = true) : CallR X (.type "dict") (fun xs H Q => ∃ (a : Addr) (ps : List Addr) (kvs : List (Key × V)), xs = [.ref a] ∧ SqL X.K H a (ps.map V.ref) ∧ Paired (fun p kv => SqT X.K H p [kV kv.1, kv.2]) ps kvs ∧
    ∀ p od, H p = none → Q (.ref p) (upd H p (.frz od (.dK (mergeK [] kvs))))) := by
  intro pins s σ H xs us Q I r h
  obtain ⟨a, ps, kvs, ex, hq, hp, q⟩ := h
  refine thn (call_dictP hc pins s σ H xs us (fun v H1 => ∃ p, v = .ref p ∧ H p = none ∧ H1 = upd H p (.dK (mergeK [] kvs))) I r ⟨a, ps, kvs, ex, hq, hp, fun p hp => ⟨p, rfl, hp, rfl⟩⟩) fun v s1 ⟨x, H1, I1, r1, p, e1, hf, e2⟩ => ?_
  subst e1 e2
  obtain ⟨od', I2⟩ := I1.lock upd_same True.intro
  refine ⟨.ref p, _, I2, r1, ?_⟩
  rw [show upd (upd H p (HO.dK (mergeK [] kvs))) p (.frz od' (.dK (mergeK [] kvs))) = upd H p (.frz od' (.dK (mergeK [] kvs))) from funext fun c => by
    by_cases e : c = p
    · rw [e, upd_same, upd_same]
    · rw [upd_ne e, upd_ne e, upd_ne e]]
  exact q p od' hf
end
end J
end

section
set_option Elab.async false
set_option linter.all false
set_option maxRecDepth 100000
/-! what makes things of one's own, writes to them, gives them away -/
namespace J
open PySem PySem.Spec PyProof.Rows L2

/-! ### one's own -/
theorem mem_setO {o : Own} {p : Addr} {d0 d : D} (h : (p, d0) ∈ o) : (p, d) ∈ setO o p d := List.mem_map.mpr ⟨(p, d0), h, if_pos rfl⟩
theorem mem_setO_ne {o : Own} {p q : Addr} {d e : D} (h : (q, e) ∈ o) (hn : q ≠ p) : (q, e) ∈ setO o p d := List.mem_map.mpr ⟨(q, e), h, if_neg hn⟩
theorem setO_setO (o : Own) (p : Addr) (d e : D) : setO (setO o p d) p e = setO o p e := by
  unfold setO
  rw [List.map_map]
  apply List.map_congr_left
  intro q _
  show (if (if q.1 = p then (p, d) else q).1 = p then (p, e) else if q.1 = p then (p, d) else q) = if q.1 = p then (p, e) else q
  by_cases c : q.1 = p
  · rw [if_pos c, if_pos c, if_pos rfl]
  · rw [if_neg c, if_neg c]
theorem setO_cons_ne {o : Own} {p q : Addr} {d e : D} (hn : q ≠ p) : setO ((q, e) :: o) p d = (q, e) :: setO o p d := by
  show (if (q, e).1 = p then (p, d) else (q, e)) :: setO o p d = _
  rw [if_neg hn]
theorem setO_cons {o : Own} {p : Addr} {d e : D} (hn : p ∉ o.map (·.1)) : setO ((p, e) :: o) p d = (p, d) :: o := by
  show (if (p, e).1 = p then (p, d) else (p, e)) :: setO o p d = _
  rw [if_pos rfl]
  congr 1
  unfold setO
  have : ∀ q ∈ o, (if q.1 = p then (p, d) else q) = q := fun q hq => if_neg fun e => hn (by rw [← e]; exact List.mem_map_of_mem hq)
  rw [List.map_congr_left this, List.map_id']

/-! ### judgements that leave open what has been made -/
def tEG (K : PySem.W.Frag) (γ : Sto) (o : Own) (P : D → Own → Prop) : TE := fun σ H Q =>
  ∃ Hb F, Wd K Hb F o H ∧ Stt K Hb γ σ ∧ ∀ d o' v Hb' H', P d o' → Ex Hb Hb' → Wd K Hb' F o' H' → Den K Hb' v d → Q v H'
def tAG (K : PySem.W.Frag) (γ : Sto) (o : Own) (P : List D → Own → Prop) : TA := fun σ H Q =>
  ∃ Hb F, Wd K Hb F o H ∧ Stt K Hb γ σ ∧ ∀ ds o' vs Hb' H', P ds o' → Ex Hb Hb' → Wd K Hb' F o' H' → DenL K Hb' vs ds → Q vs H'
def tSG (K : PySem.W.Frag) (γ : Sto) (o : Own) (P : Sto → Own → Prop) : TS := fun D σ H =>
  ∃ H0 Hb F, Ex H0 Hb ∧ Wd K Hb F o H ∧ Stt K Hb γ σ ∧ ∀ γ' o' σ' Hb' H', P γ' o' → Ex H0 Hb' → Wd K Hb' F o' H' → Stt K Hb' γ' σ' → D.nx σ' H'
structure REG (X : Cx) (e : Expr) (γ : Sto) (o : Own) (P : D → Own → Prop) : Prop where
  p : PE X e (tEG X.K γ o P)
structure RAG (X : Cx) (es : List Expr) (γ : Sto) (o : Own) (P : List D → Own → Prop) : Prop where
  p : PA X es (tAG X.K γ o P)
structure RSG (X : Cx) (st : Stmt) (γ : Sto) (o : Own) (P : Sto → Own → Prop) : Prop where
  p : PS X st (tSG X.K γ o P)
section
variable {X : Cx} {γ γ' : Sto} {o o1 o2 o3 : Own} {e a i : Expr} {es : List Expr} {d d1 d2 : D} {ds : List D} {st : Stmt} {rest : List Stmt} {out : Out} {pos pos' : Pos} {P : D → Own → Prop}
theorem reg_of (h : RE X e γ o d o1) : REG X e γ o (fun d' o' => d' = d ∧ o' = o1) :=
  ⟨PE.imp h.p fun σ H Q ⟨Hb, F, w, s, q⟩ => ⟨Hb, F, w, s, fun v Hb1 H1 e1 w1 n1 => q d o1 v Hb1 H1 ⟨rfl, rfl⟩ e1 w1 n1⟩⟩
theorem reg_mono {P' : D → Own → Prop} (h : REG X e γ o P) (hi : ∀ d o', P d o' → P' d o') : REG X e γ o P' :=
  ⟨PE.imp h.p fun σ H Q ⟨Hb, F, w, s, q⟩ => ⟨Hb, F, w, s, fun d o' v Hb1 H1 p e1 w1 n1 => q d o' v Hb1 H1 (hi d o' p) e1 w1 n1⟩⟩
theorem rag_nil : RAG X [] γ o (fun ds o' => ds = [] ∧ o' = o) :=
  ⟨PA.imp pa_nil fun σ H Q ⟨Hb, F, w, s, q⟩ => q [] o [] Hb H ⟨rfl, rfl⟩ (Ex.refl _) w .nil⟩
theorem rag_cons {P2 : D → Own → List D → Own → Prop} (ha : REG X e γ o P) (hr : ∀ d o1, P d o1 → RAG X es γ o1 (P2 d o1)) (hs : starEach (e :: es) X.env = (false, eval e X.env) :: starEach es X.env := by rfl) :
    RAG X (e :: es) γ o (fun ds o' => ∃ d o1 ds', P d o1 ∧ P2 d o1 ds' o' ∧ ds = d :: ds') := by
  have hr' : PA X es (fun σ H Q => ∃ d o1, P d o1 ∧ tAG X.K γ o1 (P2 d o1) σ H Q) := ⟨fun pos pins s σ H Q I ⟨d, o1, p, h⟩ => (hr d o1 p).p.run pos pins s σ H Q I h⟩
  exact ⟨PA.imp (pa_cons ha.p hr' hs) fun σ H Q ⟨Hb, F, w, s, q⟩ => ⟨Hb, F, w, s, fun d o1 v Hb1 H1 p e1 w1 n1 => ⟨d, o1, p, Hb1, F, w1, s.mono e1, fun ds o2 vs Hb2 H2 p2 e2 w2 n2 =>
    q (d :: ds) o2 (v :: vs) Hb2 H2 ⟨d, o1, ds, p, p2, rfl⟩ (e1.trans e2) w2 (.cons (n1.mono e2) n2)⟩⟩⟩
theorem reg_tup {k} {P2 : List D → Own → Prop} (h : RAG X es γ o P2) (hl : ∀ ds o', P2 ds o' → ds.length ≤ 100000) : REG X (.Tuple es k pos) γ o (fun d o' => ∃ ds, d = .tup ds ∧ P2 ds o') :=
  ⟨PE.imp (pe_tup h.p) fun σ H Q ⟨Hb, F, w, s, q⟩ => ⟨Hb, F, w, s, fun ds o' vs Hb1 H1 p e1 w1 n1 => ⟨by rw [n1.len]; exact Nat.le_trans (hl ds o' p) (by decide), fun b hb => by
    obtain ⟨w2, e2⟩ := w1.new (u := .tup vs) hb
    exact q _ o' _ _ _ ⟨ds, rfl, p⟩ (e1.trans e2) w2 (.tup upd_same (n1.mono e2))⟩⟩⟩
/-- where a new thing of one's own stands -/
def Fresh (o : Own) (a : Addr) : Prop := a ∉ o.map (·.1)
theorem Wd.fresh {K : PySem.W.Frag} {Hb F H : Hp} {o : Own} (w : Wd K Hb F o H) {p : Addr} (h : H p = none) : Fresh o p := fun hm => by
  obtain ⟨q, hq, e⟩ := List.mem_map.mp hm
  obtain ⟨u, hu⟩ := (w.own q hq).2.2.some
  rw [e, h] at hu; cases hu
theorem Wd.mem_ne {K : PySem.W.Frag} {Hb F H : Hp} {o : Own} (w : Wd K Hb F o H) {p : Addr} (h : H p = none) {q : Addr} {e : D} (hq : (q, e) ∈ o) : q ≠ p := fun z => w.fresh h (by rw [← z]; exact List.mem_map_of_mem hq)
theorem reg_newT : REG X (.Dict [] [] pos) γ o (fun d o' => ∃ p, d = .adr p ∧ Fresh o p ∧ o' = (p, .dT []) :: o) :=
  ⟨PE.imp pe_dnewT fun σ H Q ⟨Hb, F, w, s, q⟩ => fun p hp => q (.adr p) _ _ Hb _ ⟨p, rfl, w.fresh hp, rfl⟩ (Ex.refl _) (w.newOwn hp ⟨_, upd_same, .nil⟩) (.adr p)⟩
theorem reg_newK : REG X (.Dict [] [] pos) γ o (fun d o' => ∃ p, d = .adr p ∧ Fresh o p ∧ o' = (p, .dK []) :: o) :=
  ⟨PE.imp pe_dnewK fun σ H Q ⟨Hb, F, w, s, q⟩ => fun p hp => q (.adr p) _ _ Hb _ ⟨p, rfl, w.fresh hp, rfl⟩ (Ex.refl _) (w.newOwn hp ⟨_, upd_same, .nil⟩) (.adr p)⟩
theorem reg_lst {P2 : List D → Own → Prop} (h : RAG X es γ o P2) (hl : ∀ ds o', P2 ds o' → ds.length ≤ 100000) : REG X (.List es pos) γ o (fun d o' => ∃ p ds o1, P2 ds o1 ∧ d = .adr p ∧ Fresh o1 p ∧ o' = (p, .lst ds) :: o1) :=
  ⟨PE.imp (pe_lst h.p) fun σ H Q ⟨Hb, F, w, s, q⟩ => ⟨Hb, F, w, s, fun ds o' vs Hb1 H1 p e1 w1 n1 => ⟨by rw [n1.len]; exact Nat.le_trans (hl ds o' p) (by decide), fun b hb =>
    q (.adr b) _ _ Hb1 _ ⟨b, ds, o', p, rfl, w1.fresh hb, rfl⟩ e1 (w1.newOwn hb ⟨vs, upd_same, n1⟩) (.adr b)⟩⟩⟩
/-- a list of one's own, of what is known -/
theorem reg_lstA (h : RA X es γ o ds o1) (hl : ds.length ≤ 100000) : REG X (.List es pos) γ o (fun d o' => ∃ p, d = .adr p ∧ Fresh o1 p ∧ o' = (p, .lst ds) :: o1) :=
  ⟨PE.imp (pe_lst h.p) fun σ H Q ⟨Hb, F, w, s, q⟩ => ⟨Hb, F, w, s, fun vs Hb1 H1 e1 w1 n1 => ⟨by rw [n1.len]; exact Nat.le_trans hl (by decide), fun b hb =>
    q (.adr b) _ _ Hb1 _ ⟨b, rfl, w1.fresh hb, rfl⟩ e1 (w1.newOwn hb ⟨vs, upd_same, n1⟩) (.adr b)⟩⟩⟩
/-! ### statements -/
theorem rb_consG {P2 : Sto → Own → Prop} (h1 : RSG X st γ o P2) (h2 : ∀ γ' o', P2 γ' o' → RB X rest γ' o' out) : RB X (st :: rest) γ o out := by
  have h2' : PSs X rest (fun D σ H => ∃ γ' o', P2 γ' o' ∧ tS X.K γ' o' out D σ H) := ⟨fun pins s σ H D I ⟨γ', o', p, h⟩ => (h2 γ' o' p).p.run pins s σ H D I h⟩
  exact ⟨PSs.imp (pss_cons h1.p h2') fun D σ H ⟨H0, Hb, F, e, w, s, q⟩ => ⟨H0, Hb, F, e, w, s, fun γ' o' σ1 Hb1 H1 p e1 w1 s1 => ⟨γ', o', p, H0, Hb1, F, e1, w1, s1, q⟩⟩⟩
theorem rsg_set (i : Nat) {x : Str} {pos' : Pos} (hN : X.N.Nodup) (hi : X.N[i]? = some x) (hx : Loc X.env.scope x) (he : REG X e γ o P) (hs : swapsWith e (some (.Name x pos')) pos.line X.env = pure false := by rfl)
    (hf : X.fn x = true ∨ X.env.scope.names.lookup x = some .local := by first | exact .inl rfl | exact .inr rfl | assumption) : RSG X (.Assign [.Name x pos'] e pos) γ o (fun γ' o' => ∃ d, P d o' ∧ γ' = γ.set i (some d)) :=
  ⟨PS.imp (ps_set hN hi hx he.p hs hf) fun D σ H ⟨H0, Hb, F, e, w, s, q⟩ => ⟨Hb, F, w, s, fun d o' v Hb1 H1 p e1 w1 n1 => q _ o' _ Hb1 H1 ⟨d, p, rfl⟩ (e.trans e1) w1 ((s.mono e1).set i n1)⟩⟩
theorem rsg_unp {tg : Expr} {ix : List Nat} (he : REG X e γ o P) (γf : D → Sto) (hg : ∀ d o', P d o' → RG X tg d γ (γf d) ix) (hs : swapsWithSole [tg] e pos.line X.env = pure false := by rfl) (hw : swappedStores [tg] e X.env = pure none := by rfl) (h1 : (assignEach [tg] X.env).map (·.2) = [assign tg X.env] := by rfl) :
    RSG X (.Assign [tg] e pos) γ o (fun γ' o' => ∃ d, P d o' ∧ γ' = γf d) := by
  have hg' : PG X tg (fun v σ H Q => ∃ d o', P d o' ∧ tG X.K d γ (γf d) ix v σ H Q) := ⟨fun pins s σ H v u Q I r ⟨d, o', p, h⟩ => (hg d o' p).p.run pins s σ H v u Q I r h⟩
  exact ⟨PS.imp (ps_asg he.p hg' hs hw h1) fun D σ H ⟨H0, Hb, F, e, w, s, q⟩ => ⟨Hb, F, w, s, fun d o' v Hb1 H1 p e1 w1 n1 => ⟨d, o', p, Hb1, w1.b, s.mono e1, n1, fun σ' s' _ => q _ o' _ Hb1 H1 ⟨d, p, rfl⟩ (e.trans e1) w1 s'⟩⟩⟩
theorem rsg_par (i j : Nat) {x y : Str} {a b : Expr} {px py pt : Pos} {kt k2 pt2} {P2 : List D → Own → Prop} (hc : X.calm = true) (hN : X.N.Nodup) (hi : X.N[i]? = some x) (hj : X.N[j]? = some y) (hij : i ≠ j)
    (hx : X.env.scope.names.lookup x = some .local) (hy : X.env.scope.names.lookup y = some .local) (ha : RAG X [a, b] γ o P2) (h2 : ∀ ds o', P2 ds o' → ∃ d1 d2, ds = [d1, d2])
    (hw : swappedStores [.Tuple [.Name x px, .Name y py] kt pt] (.Tuple [a, b] k2 pt2) X.env = pure (some [x, y]))
    (hs : swapsWithSole [.Tuple [.Name x px, .Name y py] kt pt] (.Tuple [a, b] k2 pt2) pos.line X.env = pure false := by rfl) :
    RSG X (.Assign [.Tuple [.Name x px, .Name y py] kt pt] (.Tuple [a, b] k2 pt2) pos) γ o (fun γ' o' => ∃ d1 d2, P2 [d1, d2] o' ∧ γ' = (γ.set i (some d1)).set j (some d2)) :=
  ⟨PS.imp (ps_par hc hN hi hj hij hx hy ha.p hw hs) fun D σ H ⟨H0, Hb, F, e, w, s, q⟩ => ⟨Hb, F, w, s, fun ds o' vs Hb1 H1 p e1 w1 n1 => by
    obtain ⟨d1, d2, rfl⟩ := h2 ds o' p
    cases n1 with
    | cons n1 l =>
      cases l with
      | cons n2 l =>
        cases l
        exact ⟨_, _, rfl, q _ o' _ Hb1 H1 ⟨d1, d2, p, rfl⟩ (e.trans e1) w1 (((s.mono e1).set i n1).set j n2)⟩⟩⟩
/-- d[k] = v, tuples as keys -/
theorem rs_dputT {p : Addr} {kvs : List (List Key × D)} {ks : List Key} (hu : X.A.units + 1 < cLine) (hv : RE X e γ o d o1) (ha : RE X a γ o1 (.adr p) o2) (hi : RE X i γ o2 (.tup (ks.map keyD)) o3) (hp : (p, .dT kvs) ∈ o3) (hl : kvs.length ≤ 100000)
    (hs : swapsWith e (some (.Subscript a i pos')) pos.line X.env = pure false := by rfl) : RS X (.Assign [.Subscript a i pos'] e pos) γ o (.nx γ (setO o3 p (.dT (putD kvs ks d)))) :=
  ⟨PS.imp (ps_dput hu ha.p hi.p hv.p hs) fun D σ H ⟨H0, Hb, F, e, w, s, q⟩ => ⟨Hb, F, w, s, fun v Hb1 H1 e1 w1 n1 => ⟨Hb1, F, w1, s.mono e1, fun x Hb2 H2 e2 w2 n2 => ⟨Hb2, F, w2, s.mono (e1.trans e2), fun y Hb3 H3 e3 w3 n3 => by
    cases n2
    obtain ⟨ws, h1, l⟩ := (w3.own _ hp).2.2
    cases n3 with
    | tup h2 l2 =>
      have ek := l2.keys
      subst ek
      refine ⟨p, _, rfl, DPut.t h1 (w3.b _ _ h2) (by rw [l.len]; exact Nat.lt_of_le_of_lt hl (by decide)), q _ Hb3 _ (e.trans (e1.trans (e2.trans e3))) (w3.write hp ⟨_, upd_same, l.put ks (n1.mono (e2.trans e3))⟩) (s.mono (e1.trans (e2.trans e3)))⟩⟩⟩⟩⟩
/-- d[k] = v, an int or a text as the key -/
theorem rs_dputK {p : Addr} {kvs : List (Key × D)} {k : Key} (hu : X.A.units + 1 < cLine) (hv : RE X e γ o d o1) (ha : RE X a γ o1 (.adr p) o2) (hi : RE X i γ o2 (keyD k) o3) (hp : (p, .dK kvs) ∈ o3) (hl : kvs.length ≤ 100000)
    (hs : swapsWith e (some (.Subscript a i pos')) pos.line X.env = pure false := by rfl) : RS X (.Assign [.Subscript a i pos'] e pos) γ o (.nx γ (setO o3 p (.dK (putD kvs k d)))) :=
  ⟨PS.imp (ps_dput hu ha.p hi.p hv.p hs) fun D σ H ⟨H0, Hb, F, e, w, s, q⟩ => ⟨Hb, F, w, s, fun v Hb1 H1 e1 w1 n1 => ⟨Hb1, F, w1, s.mono e1, fun x Hb2 H2 e2 w2 n2 => ⟨Hb2, F, w2, s.mono (e1.trans e2), fun y Hb3 H3 e3 w3 n3 => by
    cases n2
    obtain ⟨ws, h1, l⟩ := (w3.own _ hp).2.2
    have ey : y = kV k := by
      cases k with
      | inl i => cases n3; rfl
      | inr i => cases n3; rfl
    subst ey
    exact ⟨p, _, rfl, DPut.k h1 (by rw [l.len]; exact Nat.lt_of_le_of_lt hl (by decide)), q _ Hb3 _ (e.trans (e1.trans (e2.trans e3))) (w3.write hp ⟨_, upd_same, l.put k (n1.mono (e2.trans e3))⟩) (s.mono (e1.trans (e2.trans e3)))⟩⟩⟩⟩⟩
/-- d[k] += n -/
theorem rs_daugI {p : Addr} {kvs : List (Key × D)} {k : Key} {m n : Int} {tpos : Pos} (hu : X.A.units + 1 < cLine) (ha : RE X a γ o (.adr p) o1) (hi : RE X i γ o1 (keyD k) o2) (hv : RE X e γ o2 (.int n) o3) (hp2 : (p, .dK kvs) ∈ o2) (hg : valD kvs k = some (.int m)) (hp3 : (p, .dK kvs) ∈ o3) (hl : kvs.length ≤ 100000)
    (hst : ∀ ov iv new, augStore i ov iv new = (do holding [new, ov, iv] (setItem ov iv new); release [new, ov, iv] []; pure .next) := by intro _ _ _; rfl) :
    RS X (.AugAssign (.Subscript a i tpos) .Add e pos) γ o (.nx γ (setO o3 p (.dK (putD kvs k (.int (m + n)))))) :=
  ⟨PS.imp (ps_daug hu ha.p hi.p hv.p in_add hst) fun D σ H ⟨H0, Hb, F, e, w, s, q⟩ => ⟨Hb, F, w, s, fun x Hb1 H1 e1 w1 n1 => ⟨Hb1, F, w1, s.mono e1, fun y Hb2 H2 e2 w2 n2 => by
    cases n1
    have ey : y = kV k := by
      cases k with
      | inl i => cases n2; rfl
      | inr i => cases n2; rfl
    subst ey
    obtain ⟨ws, h1, l⟩ := (w2.own _ hp2).2.2
    have hz := l.val k
    rw [hg] at hz
    cases hz' : valV ws k with
    | none => rw [hz'] at hz; cases hz
    | some v0 =>
      rw [hz'] at hz
      cases hz with
      | some hz =>
        cases hz
        refine ⟨p, _, rfl, by rw [← hz']; exact DGet.k h1, Hb2, F, w2, s.mono (e1.trans e2), fun y2 Hb3 H3 e3 w3 n3 => ?_⟩
        cases n3
        obtain ⟨ws3, h3, l3⟩ := (w3.own _ hp3).2.2
        exact ⟨m, n, rfl, rfl, _, DPut.k h3 (by rw [l3.len]; exact Nat.lt_of_le_of_lt hl (by decide)), q _ Hb3 _ (e.trans (e1.trans (e2.trans e3))) (w3.write hp3 ⟨_, upd_same, l3.put k (.int _)⟩) (s.mono (e1.trans (e2.trans e3)))⟩⟩⟩⟩
/-! ### methods of one's own -/
abbrev BmB (X : Cx) (a : Expr) (name : Str) : Prop := attributeBase a name X.env (eval a X.env) = eval a X.env
abbrev BmF (X : Cx) (es : List Expr) (cpos : Pos) : Prop := ((backTo cpos (starEach es X.env)).all (fun x => !x.1) && (backToKw cpos (keywordEach [] X.env)).all (fun x => x.1.isSome) && decide (es.length + ([] : List Keyword).length + (if ([] : List Keyword).isEmpty then 0 else 1) < 30)) = true
theorem re_append {p : Addr} {apos cpos : Pos} (ha : RE X a γ o (.adr p) o1) (he : RE X e γ o1 d o2) (hp1 : ∃ d0, (p, .lst d0) ∈ o1) (hp : (p, .lst ds) ∈ o2) (hl : ds.length ≤ 100000) (hb : BmB X a "append" := by rfl) (hf : BmF X [e] cpos := by rfl) (hline : (apos.endLine == cpos.line) = true := by rfl)
    (hs : starEach [e] X.env = (false, eval e X.env) :: starEach [] X.env := by rfl) (hpl : (backTo cpos (starEach [] X.env)).any (·.1) = false := by rfl) :
    RE X (.Call (.Attribute a "append" apos) [e] [] cpos) γ o .non (setO o2 p (.lst (ds ++ [d]))) :=
  ⟨PE.imp (pe_bm PySem.F.plainAttrs_list PySem.F.slot_list_append PySem.F.type_list_append mt_append ha.p (pa_cons he.p pa_nil hs) hb hf hline hs hpl) fun σ H Q ⟨Hb, F, w, s, q⟩ => ⟨Hb, F, w, s, fun x Hb1 H1 e1 w1 n1 => by
    cases n1
    obtain ⟨d0, hp1⟩ := hp1
    obtain ⟨ws, h1, _⟩ := (w1.own _ hp1).2.2
    refine ⟨.inl ⟨rfl, _, SqL.of h1⟩, Hb1, F, w1, s.mono e1, fun y Hb2 H2 e2 w2 n2 => ?_⟩
    obtain ⟨ws, h2, l⟩ := (w2.own _ hp).2.2
    exact ⟨p, ws, y, rfl, rfl, h2, by rw [l.len]; exact Nat.lt_of_le_of_lt hl (by decide), q _ Hb2 _ (e1.trans e2) (w2.write hp ⟨_, upd_same, l.append (.cons n2 .nil)⟩) .non⟩⟩⟩
theorem re_extend {p : Addr} {apos cpos : Pos} {es' : List D} (ha : RE X a γ o (.adr p) o1) (he : RE X e γ o1 (.lst es') o2) (hp1 : ∃ d0, (p, .lst d0) ∈ o1) (hp : (p, .lst ds) ∈ o2) (hl : ds.length + es'.length ≤ 100000) (hb : BmB X a "extend" := by rfl) (hf : BmF X [e] cpos := by rfl) (hline : (apos.endLine == cpos.line) = true := by rfl)
    (hs : starEach [e] X.env = (false, eval e X.env) :: starEach [] X.env := by rfl) (hpl : (backTo cpos (starEach [] X.env)).any (·.1) = false := by rfl) :
    RE X (.Call (.Attribute a "extend" apos) [e] [] cpos) γ o .non (setO o2 p (.lst (ds ++ es'))) :=
  ⟨PE.imp (pe_bm PySem.F.plainAttrs_list PySem.F.slot_list_extend PySem.F.type_list_extend mt_extend ha.p (pa_cons he.p pa_nil hs) hb hf hline hs hpl) fun σ H Q ⟨Hb, F, w, s, q⟩ => ⟨Hb, F, w, s, fun x Hb1 H1 e1 w1 n1 => by
    cases n1
    obtain ⟨d0, hp1⟩ := hp1
    obtain ⟨ws, h1, _⟩ := (w1.own _ hp1).2.2
    refine ⟨.inl ⟨rfl, _, SqL.of h1⟩, Hb1, F, w1, s.mono e1, fun y Hb2 H2 e2 w2 n2 => ?_⟩
    obtain ⟨ws, h2, l⟩ := (w2.own _ hp).2.2
    cases n2 with
    | @lst b zs _ h3 l3 => exact ⟨p, b, ws, zs, rfl, rfl, h2, w2.b _ _ h3, by rw [l.len, l3.len]; exact Nat.le_trans hl (by decide), q _ Hb2 _ (e1.trans e2) (w2.write hp ⟨_, upd_same, l.append l3⟩) .non⟩⟩⟩
theorem re_lpop {p : Addr} {apos cpos : Pos} (ha : RE X a γ o (.adr p) o1) (hp : (p, .lst (ds ++ [d])) ∈ o1) (hb : BmB X a "pop" := by rfl) (hline : (apos.endLine == cpos.line) = true := by rfl) :
    RE X (.Call (.Attribute a "pop" apos) [] [] cpos) γ o d (setO o1 p (.lst ds)) :=
  ⟨PE.imp (pe_bm0 PySem.F.plainAttrs_list PySem.F.slot_list_pop PySem.F.type_list_pop mt_pop ha.p hb hline) fun σ H Q ⟨Hb, F, w, s, q⟩ => ⟨Hb, F, w, s, fun x Hb1 H1 e1 w1 n1 => by
    cases n1
    obtain ⟨ws, h1, l⟩ := (w1.own _ hp).2.2
    have hl := l.len
    rw [List.length_append, List.length_singleton] at hl
    obtain ⟨v, hv, nv⟩ := l.get (i := ds.length) (d := d) (by simp)
    refine ⟨.inl ⟨rfl, _, SqL.of h1⟩, p, ws, v, rfl, rfl, h1, by rw [hl, Nat.add_sub_cancel]; exact hv, q _ Hb1 _ e1 (w1.write hp ⟨_, upd_same, ?_⟩) nv⟩
    have z := l.take ds.length
    rw [List.take_left] at z
    rw [List.dropLast_eq_take, hl, Nat.add_sub_cancel]
    exact z⟩⟩
/-- d.pop(k), k there -/
theorem mt_popT1 (hu : X.A.units + 1 < cLine) : MtR X "dict.pop" (fun x xs H Q => ∃ (a : Addr) (kvs : List (List Key × V)) (k : List Key) (b : Addr) (v : V), x = .ref a ∧ xs = [.ref b] ∧ H a = some (.dT kvs) ∧ H b = some (.tup (k.map kV)) ∧ valV kvs k = some v ∧ Q v (upd H a (.dT (dropK kvs k)))) := by
  intro pins s σ H x xs v us Q I rx rxs h
  obtain ⟨a, kvs, k, b, v0, rfl, rfl, ha, hb, hv, q⟩ := h
  cases rx
  rw [Vals.ref1 rxs]
  obtain ⟨z, hd, ys, rel, dd⟩ := dt_of I.hok ha
  have r := rel.val k
  rw [hv] at r
  cases hq : atKey ys k with
  | none => rw [hq] at r; exact False.elim r
  | some p =>
    rw [hq] at r
    refine call_pop_heap (knd := mk X.prog X.w) (p := p) (.inl rfl) (PySem.F.args_dict_pop_2 _ _) (tupleKind_room_in1 hu) (key_of I.hok hb) hd dd hq (fun h' dd' sb => ?_) (by rw [← Paired.length rel]; exact z)
    obtain ⟨o, es, ep, ho, h2, h3, h4, _, h5⟩ := dd'
    have I2 : ∀ tk, Inv X pins σ (upd H a (.dT (dropK kvs k))) { s with heap := h', toks := tk } := fun tk => d_write I (by rw [ha]; exact True.intro) sb ⟨o, ho⟩ ⟨Nat.le_trans (dropK_le kvs k) z, hd, _, (DX.KT_drop k rel).keeps (fun c ys ec => (by rw [upd_ne (ne_of ec ha (fun z => nomatch z))]; exact ec)), o, es, ep, ho, h2, h3, h4, h5⟩
    exact ⟨v0, _, I2 _, r, q⟩
theorem re_dpop {p : Addr} {apos cpos : Pos} {kvs kvs1 : List (List Key × D)} {ks : List Key} (hu : X.A.units + 1 < cLine) (ha : RE X a γ o (.adr p) o1) (he : RE X e γ o1 (.tup (ks.map keyD)) o2) (hp1 : (p, .dT kvs1) ∈ o1) (hp : (p, .dT kvs) ∈ o2) (hv : valD kvs ks = some d) (hb : BmB X a "pop" := by rfl) (hf : BmF X [e] cpos := by rfl)
    (hline : (apos.endLine == cpos.line) = true := by rfl) (hs : starEach [e] X.env = (false, eval e X.env) :: starEach [] X.env := by rfl) (hpl : (backTo cpos (starEach [] X.env)).any (·.1) = false := by rfl) :
    RE X (.Call (.Attribute a "pop" apos) [e] [] cpos) γ o d (setO o2 p (.dT (dropD kvs ks))) :=
  ⟨PE.imp (pe_bm PySem.F.plainAttrs_dict PySem.F.slot_dict_pop PySem.F.type_dict_pop (mt_popT1 hu) ha.p (pa_cons he.p pa_nil hs) hb hf hline hs hpl) fun σ H Q ⟨Hb, F, w, s, q⟩ => ⟨Hb, F, w, s, fun x Hb1 H1 e1 w1 n1 => by
    cases n1
    obtain ⟨ws, h1, _⟩ := (w1.own _ hp1).2.2
    refine ⟨.inr (.inr (.inl ⟨rfl, .inr ⟨_, h1⟩⟩)), Hb1, F, w1, s.mono e1, fun y Hb2 H2 e2 w2 n2 => ?_⟩
    obtain ⟨ws, h2, l⟩ := (w2.own _ hp).2.2
    cases n2 with
    | @tup b vs _ h3 l3 =>
      have ek := l3.keys
      subst ek
      have hz := l.val ks
      rw [hv] at hz
      cases hz' : valV ws ks with
      | none => rw [hz'] at hz; cases hz
      | some v0 =>
        rw [hz'] at hz
        cases hz with
        | some hz => exact ⟨p, ws, ks, b, v0, rfl, rfl, h2, w2.b _ _ h3, hz', q _ Hb2 _ (e1.trans e2) (w2.write hp ⟨_, upd_same, l.drop ks⟩) hz⟩⟩⟩
end
end J
end

section
set_option Elab.async false
set_option linter.all false
set_option maxRecDepth 100000
/-! what is walked: dicts, enumerate, zip -/
namespace J
open PySem PySem.Spec PyProof.Rows L2
section
variable {X : Cx} {γ : Sto} {o o1 o2 : Own} {tg e e2 : Expr} {d d1 d2 : D} {xs ys : List D} {pos p : Pos}
def keyT (ks : List Key) : D := .tup (ks.map keyD)
theorem keyD_den {K : PySem.W.Frag} {H : Hp} : ∀ k : Key, Den K H (kV k) (keyD k)
  | .inl i => .int i
  | .inr x => .str x
theorem keysD_den {K : PySem.W.Frag} {H : Hp} : ∀ ks : List Key, DenL K H (ks.map kV) (ks.map keyD)
  | [] => .nil
  | k :: ks => .cons (keyD_den k) (keysD_den ks)
theorem DenT.at' {K : PySem.W.Frag} {H : Hp} : ∀ {ws : List (List Key × V)} {kvs : List (List Key × D)} {i : Nat} {p : List Key × D}, DenT K H ws kvs → kvs[i]? = some p → ∃ v, ws[i]? = some (p.1, v)
  | _, _, _, _, .nil, h => by simp at h
  | _, _, 0, _, .cons _ _, h => by cases h; exact ⟨_, rfl⟩
  | _, _, i + 1, _, .cons _ l, h => by
    obtain ⟨v, e⟩ := l.at' (i := i) (by simpa using h)
    exact ⟨v, by simpa using e⟩
/-- the keys of a locked dict -/
theorem good_keys {K : PySem.W.Frag} {Hb : Hp} {a : Addr} {od : Obj} {ws : List (List Key × V)} {kvs : List (List Key × D)} {N : Own → Prop} (l : ws.map (·.1) = kvs.map (·.1)) (hl : ∀ (Hb' H : Hp) (F' : Hp) (o : Own), Ex Hb Hb' → N o → Wd K Hb' F' o H → H a = some (.frz od (.dT ws))) :
    GoodIt K Hb (Itkt a od ws) (kvs.map fun kv => keyT kv.1) N := by
  have len : ws.length = kvs.length := by
    have z := congrArg List.length l
    rwa [List.length_map, List.length_map] at z
  refine ⟨fun i Hb2 H2 F' o' hi e2 n w2 => ⟨⟨hl Hb2 H2 F' o' e2 n w2, by rw [len]; rw [List.length_map] at hi; exact hi⟩, fun x H3 y => ?_⟩, fun Hb2 H2 F' o' e2 n w2 => ⟨hl Hb2 H2 F' o' e2 n w2, by rw [List.length_map, len]; exact Nat.le_refl _⟩⟩
  obtain ⟨rfl, k, v, q, hk, rfl, hq⟩ := y
  have hi' : i < kvs.length := by rw [List.length_map] at hi; exact hi
  have ek : (kvs[i]).1 = k := by
    have z1 : (ws.map (·.1))[i]? = some k := by rw [List.getElem?_map, hk]; rfl
    rw [l, List.getElem?_map, List.getElem?_eq_getElem hi'] at z1
    exact Option.some.inj z1
  obtain ⟨e3, w3⟩ := w2.seen hq
  refine ⟨_, e3, w3, ?_⟩
  rw [List.getElem_map, ek]
  exact .tup upd_same (keysD_den k)
theorem ri_keys {kvs : List (List Key × D)} (h : RE X e γ o (.dT kvs) o1) : RI X tg e γ o (kvs.map fun kv => keyT kv.1) o1 :=
  ⟨PI.imp (pi_keys h.p) fun σ H R ⟨Hb, F, w, s, q⟩ => ⟨Hb, F, w, s, fun v Hb1 H1 e1 w1 n1 => by
    cases n1 with
    | dT h1 l => exact ⟨_, _, rfl, .inr ⟨_, w1.b _ _ h1, q _ Hb1 H1 e1 w1 (good_keys l.keys fun Hb2 H2 F' o' e2 _ w2 => w2.b _ _ (e2 _ _ h1))⟩⟩⟩⟩
theorem ri_keysO {p : Addr} {od : Obj} {ws : List (List Key × V)} {kvs : List (List Key × D)} (h : RE X e γ o (.adr p) o1) (hp : (p, D.fT od ws kvs) ∈ o1) : RI X tg e γ o (kvs.map fun kv => keyT kv.1) o1 (fun o' => (p, D.fT od ws kvs) ∈ o') :=
  ⟨PI.imp (pi_keys h.p) fun σ H R ⟨Hb, F, w, s, q⟩ => ⟨Hb, F, w, s, fun v Hb1 H1 e1 w1 n1 => by
    cases n1
    obtain ⟨h1, l⟩ := (w1.own _ hp).2.2
    exact ⟨p, od, rfl, .inr ⟨ws, h1, q _ Hb1 H1 e1 w1 (good_keys l.keys fun Hb2 H2 F' o' e2 n w2 => (w2.own _ n).2.2.1)⟩⟩⟩⟩
theorem gets_oF {K : PySem.W.Frag} {p : Addr} {od : Obj} {ws : List (List Key × V)} {kvs : List (List Key × D)} {ks : List Key} (hp : (p, D.fT od ws kvs) ∈ o) : Gets K o (.adr p) (.tup (ks.map keyD)) (valD kvs ks) := ⟨fun Hb F H x y w hx hy => by
  cases hx
  obtain ⟨h1, l⟩ := (w.own _ hp).2.2
  cases hy with
  | tup h2 l2 =>
    have ek := l2.keys
    subst ek
    exact ⟨_, _, rfl, .inr ⟨ws, ks, _, .inr ⟨_, h1⟩, rfl, w.b _ _ h2, rfl⟩, l.val ks⟩⟩
/-- one's own dict, walked: locked while the comprehension runs -/
theorem rl_lock {elt : Expr} {gens : List Comprehension} {scope : Scope} {p : Addr} {kvs : List (List Key × D)} (hp : (p, .dT kvs) ∈ o) (hn : (o.map (·.1)).Nodup → setO o p (.dT kvs) = o)
    (h : ∀ od ws, RLc X elt gens scope γ (setO o p (.fT od ws kvs)) d (setO o p (.fT od ws kvs))) : RLc X elt gens scope γ o d o := by
  have key : ∀ {σ : L2.St} {H : Hp} {Q : VK}, tE X.K γ o d o σ H Q → ∃ ws, H p = some (.dT ws) ∧ ∀ od, tE X.K γ (setO o p (.fT od ws kvs)) d (setO o p (.fT od ws kvs)) σ (upd H p (.frz od (.dT ws))) fun v H' => H' p = some (.frz od (.dT ws)) ∧ Q v (upd H' p (.dT ws)) := by
    intro σ H Q ⟨Hb, F, w, s, q⟩
    obtain ⟨ws, h1, l⟩ := (w.own _ hp).2.2
    refine ⟨ws, h1, fun od => ⟨Hb, F, w.write (d := .fT od ws kvs) hp ⟨upd_same, l⟩, s, fun v Hb1 H1 e1 w1 n1 => ?_⟩⟩
    have hm : (p, D.fT od ws kvs) ∈ setO o p (.fT od ws kvs) := mem_setO hp
    obtain ⟨h2, l2⟩ := (w1.own _ hm).2.2
    refine ⟨h2, q v Hb1 _ e1 ?_ n1⟩
    have w2 := w1.write (d := .dT kvs) (u := .dT ws) hm ⟨ws, upd_same, l2⟩
    rw [setO_setO, hn w.nd] at w2
    exact w2
  constructor
  · intro pos
    have hp' : PE X (.ListComp elt gens scope pos) (fun σ H Q => ∃ od ws, tE X.K γ (setO o p (.fT od ws kvs)) d (setO o p (.fT od ws kvs)) σ H Q) := ⟨fun pins s σ H Q I ⟨od, ws, z⟩ => ((h od ws).e pos).run pins s σ H Q I z⟩
    refine PE.imp (pe_lock hp') fun σ H Q z => ?_
    obtain ⟨ws, h1, z2⟩ := key z
    exact ⟨p, _, h1, True.intro, fun od => ⟨od, ws, z2 od⟩⟩
  · intro i y py pos spos e1 e2 e3
    have hp' : PS X (.Assign [.Name y py] (.ListComp elt gens scope pos) spos) (fun D σ H => ∃ od ws, tAsg (tE X.K γ (setO o p (.fT od ws kvs)) d (setO o p (.fT od ws kvs))) (gName i) D σ H) := ⟨fun pins s σ H D I ⟨od, ws, z⟩ => ((h od ws).s i y py pos spos e1 e2 e3).run pins s σ H D I z⟩
    refine PS.imp (ps_lock hp') fun D σ H z => ?_
    obtain ⟨ws, h1, z2⟩ := key z
    refine ⟨p, _, h1, True.intro, fun od => ⟨od, ws, ?_⟩⟩
    obtain ⟨Hb, F, w, s, q⟩ := z2 od
    exact ⟨Hb, F, w, s, fun v Hb1 H1 e1 w1 n1 => q v Hb1 H1 e1 w1 n1⟩
end
end J
end

section
set_option Elab.async false
set_option linter.all false
set_option maxRecDepth 100000
/-! enumerate of a tuple, zip of tuples -/
namespace J
open PySem PySem.Spec PyProof.Rows L2
theorem meets_enumT (t : Addr) (items : Array Value) :
    Meets (Builtin.«enumerate.__new__» ⟨[.type "enumerate", .ref t], []⟩) (fun _ R s => s.heap.IsTuple t items ∧
      R (.ok (.ret (.ref (s.heap.push { cls := .type "tuple_iterator", data := .fields #[.ref t, .int 0 0] }).objs.size)))
        { s with heap := (s.heap.push { cls := .type "tuple_iterator", data := .fields #[.ref t, .int 0 0] }).push { cls := .type "enumerate", data := .fields #[.none, .bool false, .ref s.heap.objs.size, rawInt 0, .none, .none] } }) :=
  .of_wp fun prog w A R s h => by
    obtain ⟨hp, g, d, tk, os⟩ := s
    obtain ⟨h1, h⟩ := h
    have hsub := sub_enumerate
    have it : ∀ {A' : Around} {E : Value → Shared → Prop} {Q : Value → Shared → Prop}, Q (.ref hp.objs.size) ⟨hp.push { cls := .type "tuple_iterator", data := .fields #[.ref t, .int 0 0] }, g, d, tk, os⟩ → wpAny (model prog w) A' (pyIter (.ref t)) Q E ⟨hp, g, d, tk, os⟩ :=
      fun q => wpAny_pyIter_tuple (s := ⟨hp, g, d, tk, os⟩) h1 q
    wp_walk using it
    refine wpAny_stack_any fun st => wpAny_pure ?_
    split
    · rename_i c _ _ _ _ _
      cases (c == Value.type "enumerate")
      all_goals
        wp_walk using it
        exact ⟨_, rfl, h⟩
    · wp_walk using it
      exact ⟨_, rfl, h⟩
section
variable {prog : Program} {w : World} {A : Around} {E : Value → Shared → Prop} {s : Shared}
theorem call_enumT {t : Addr} {items : Array Value} {Q : Value → Shared → Prop} (ht : s.heap.IsTuple t items)
    (h : ∀ h', IsEnum h' (s.heap.objs.size + 1) s.heap.objs.size 0 .none → h'.IsTupleIter s.heap.objs.size t 0 → (∀ b o, s.heap.get? b = some o → h'.get? b = some o) → Q (.ref (s.heap.objs.size + 1)) { s with heap := h' }) :
    wpAny (model prog w) A (call (.type "enumerate") [.ref t]) Q E s := by
  refine callType_new F.called_enumerate (by decide) (F.typeCall_enumerate_1 _) (F.newCall_enumerate_1 _) (fun obj => F.args_object_init_2 obj _) F.entry_enumerate_new (meets_enumT t items) ⟨ht, ?_⟩
  generalize ho : ({ cls := .type "tuple_iterator", data := .fields #[.ref t, .int 0 0] } : Obj) = oI
  have hz : (s.heap.push oI).objs.size = s.heap.objs.size + 1 := Heap.size_push ..
  show _ ∧ _
  rw [hz]
  have he : IsEnum ((s.heap.push oI).push { cls := .type "enumerate", data := .fields #[.none, .bool false, .ref s.heap.objs.size, rawInt 0, .none, .none] }) (s.heap.objs.size + 1) s.heap.objs.size 0 .none := by
    have z := Heap.get?_push_size (s.heap.push oI) (o := { cls := .type "enumerate", data := .fields #[.none, .bool false, .ref s.heap.objs.size, rawInt 0, .none, .none] }) rfl
    rwa [hz] at z
  have hf : oI.isFreed = false := by rw [← ho]; rfl
  exact ⟨⟨_, he, rfl⟩, h _ he ⟨oI, Heap.get?_push_of_some _ (Heap.get?_push_size _ hf), by rw [← ho], by rw [← ho]; rfl⟩ fun b o x => Heap.get?_push_of_some _ (Heap.get?_push_of_some _ x)⟩
end
/-- the tuple at a, each item in a new pair -/
def IteT (K : PySem.W.Frag) (a : Addr) : It :=
  ⟨fun i H => ∃ (xs : List V) (x : V), SqT K H a xs ∧ xs[i]? = some x, fun i H v H' => ∃ T x, v = .ref T ∧ H T = none ∧ H' = upd H T (.tup [.int (i : Nat), x]) ∧ ∀ xs, SqT K H a xs → xs[i]? = some x, fun i H => ∃ xs : List V, SqT K H a xs ∧ xs.length = i⟩
theorem turn_enumT {P : Program} {w : World} {K : PySem.W.Frag} {elts : List Expr} {kk : Nat} {tpos : Pos} (a e it : Addr) (hai : a ≠ it) :
    Turn P w K (.Tuple elts kk tpos) (IteT K a) [e, it] e (fun i h => (∃ old, IsEnum h e it ((i : Nat) : Int) old) ∧ h.IsTupleIter it a i ∧ e ≠ it ∧ e ≠ a) where
  mem := by simp
  obj := fun i h st b hb => by
    obtain ⟨⟨old, he⟩, ⟨o, ho, hc, hd⟩, _⟩ := st
    rcases (show b = e ∨ b = it by simpa using hb) with z | z
    · rw [z]; exact ⟨_, he, fun v q => nomatch q⟩
    · rw [z]; exact ⟨o, ho, fun v q => by rw [hd] at q; cases q⟩
  keep := fun i h h' st k => let ⟨⟨old, he⟩, hi, hne⟩ := st; ⟨⟨old, k e (by simp) _ he⟩, hi.at fun o q => k it (by simp) o q, hne⟩
  item := by
    intro X hP hw hK hc i pins s σ H E I hf st hg
    subst hP hw hK
    obtain ⟨⟨old, he⟩, hit, hne, hea⟩ := st
    obtain ⟨xs, x, hq, hx⟩ := hg
    obtain ⟨its, rv, tp, hz⟩ := I.tuple hq
    obtain ⟨u, hu, ru⟩ := rv.get hx
    have tp' : s.heap.IsTuple a its.toArray := tp
    have hel : e < s.heap.objs.size := Heap.lt_size he
    have hil : it < s.heap.objs.size := by obtain ⟨_, q, _⟩ := hit; exact Heap.lt_size q
    have hi : i < its.toArray.size := by
      rw [List.size_toArray]
      exact (List.getElem?_eq_some_iff.mp hu).1
    refine wpAny_pyNext_enum_itemD (Draws.tuple (A := X.A.in1) (I.ok.hd hc) it a hai its.toArray) he ⟨hit, tp'⟩ hi hne (by simp [hne, hea]) fun v h' tk hv ho st' hT hsz hk => ?_
    obtain ⟨hit', _⟩ := st'
    have ev : v = u := by
      have z : its.toArray[i]? = some u := by simpa using hu
      rw [z] at hv
      exact (Option.some.inj hv).symm
    rw [ev] at hT ho
    refine ⟨_, rfl, wpAny_letOwnedTupleGo_enum (s := { s with heap := h', toks := tk + 1 }) ho fun h'' he' sb => ?_⟩
    have hT2 : h''.get? s.heap.objs.size = some { cls := .type "tuple", data := .seq #[.int i tk, u] } := (sb.2 _ (Nat.ne_of_gt hel)).trans hT
    have new : ObjOk X.prog X.w (upd H s.heap.objs.size (.tup [.int (i : Nat), x])) h'' s.heap.objs.size (.tup [.int (i : Nat), x]) :=
      ⟨by show 2 ≤ sizeLine; decide, [.int i tk, u], .cons ⟨_, rfl⟩ (.cons ru .nil), ⟨_, hT2, rfl, _, rfl⟩⟩
    have I1 : Inv X pins σ (upd H s.heap.objs.size (.tup [.int (i : Nat), x])) { s with heap := h'', toks := tk + 1 } :=
      I.turnedNew (ch := [e, it]) (fun b ob hb q => (sb.2 b (fun z => hb (by simp [z]))).trans (hk b ob (fun z => hb (by simp [z])) (fun z => hb (by simp [z])) q)) hf (Nat.le_refl _) new
    refine ⟨.ref s.heap.objs.size, _, I1, rfl, ⟨_, x, rfl, I.hok.fresh (Nat.le_refl _), rfl, fun ys hy => by rw [I.tuple_inj hy hq]; exact hx⟩, ⟨⟨u, ?_⟩, hit'.at fun o q => (sb.2 it (Ne.symm hne)).trans q, hne, hea⟩, fun b hb => ?_⟩
    · rw [show ((i + 1 : Nat) : Int) = (i : Int) + 1 by omega]; exact he'
    · have hb' : b < s.heap.objs.size := by
        rcases (show b = e ∨ b = it by simpa using hb) with z | z
        · rw [z]; exact hel
        · rw [z]; exact hil
      rw [upd_ne (Nat.ne_of_lt hb')]
      exact (hf b hb).1
  done := by
    intro X hP hw hK hc i pins s σ H E I hf st hg
    subst hP hw hK
    obtain ⟨⟨old, he⟩, hit, hne, hea⟩ := st
    obtain ⟨xs, hq, hx⟩ := hg
    obtain ⟨its, rv, tp, hz⟩ := I.tuple hq
    obtain ⟨f0, f1, f2, f3, f4, f5⟩ := hf it (by simp)
    have hl := rv.length
    have tp' : s.heap.IsTuple a its.toArray := tp
    have ei : i = its.toArray.size := by rw [List.size_toArray, ← hl, hx]
    rw [ei] at hit
    exact wpAny_pyNext_enum_endD (Draws.tuple (A := X.A.in1) (I.ok.hd hc) it a hai its.toArray) he ⟨hit, tp'⟩ fun h' eb => ⟨rfl, I.turned (t' := s.toks) (fun b o hb q => eb b o hb q) f0 f1 f3 f4 f5⟩
  self := fun A i s Q E st h => let ⟨⟨_, he⟩, _⟩ := st; wpAny_pyIter_enum he h
def iEnumT (K : PySem.W.Frag) (ta : TA) : TI := fun σ H R => ta σ H fun vs H1 => ∃ a xs, vs = [.ref a] ∧ SqT K H1 a xs ∧ R (IteT K a) H1
theorem pi_enumT {X : Cx} {e : Expr} {ta : TA} {p pos tpos : Pos} {elts : List Expr} {kk : Nat} (hg : Gl X "enumerate") (hm : X.mg "enumerate" = none) (ha : PA X [e] ta) (hs : starEach [e] X.env = [(false, eval e X.env)] := by rfl) :
    PI X (.Tuple elts kk tpos) (.Call (.Name "enumerate" p) [e] [] pos) (iEnumT X.K ta) := by
  refine ⟨fun pins s σ H R I h => ?_⟩
  refine Call_ (ld_blt I hg hm boot_enumerate (PyProof.Rows.callWith_type1 (thn (ha.run pos pins s σ H _ I h) fun us s1 ⟨vs, H1, I1, r1, q1⟩ => ?_) hs rfl))
  obtain ⟨a, xs, rfl, hq, q⟩ := q1
  rw [Vals.ref1 r1]
  obtain ⟨its, rv, tp, hz⟩ := I1.tuple hq
  have tp' : s1.heap.IsTuple a its.toArray := tp
  have la : a < s1.heap.objs.size := by obtain ⟨o, ho, _⟩ := tp; exact Heap.lt_size ho
  refine call_enumT tp' fun h' he hit hk => wpAny_pyIter_enum he ?_
  have I2 : Inv X pins σ H1 { s1 with heap := h' } := I1.kept (t' := s1.toks) hk
  refine ⟨s1.heap.objs.size + 1, [s1.heap.objs.size + 1, s1.heap.objs.size], _, _, H1, rfl, I2, turn_enumT a (s1.heap.objs.size + 1) s1.heap.objs.size (Nat.ne_of_lt la), ⟨⟨.none, he⟩, hit, Nat.succ_ne_self _, Nat.ne_of_gt (Nat.lt_succ_of_lt la)⟩, fun b hb => ?_, q⟩
  have hle : s1.heap.objs.size ≤ b := by
    rcases (show b = s1.heap.objs.size + 1 ∨ b = s1.heap.objs.size by simpa using hb) with z | z
    · rw [z]; exact Nat.le_add_right _ _
    · rw [z]; exact Nat.le_refl _
  exact I1.fpOk hle (I1.hok.fresh hle)

/-! ### in data -/
def enumD : Nat → List D → List D
  | _, [] => []
  | i, d :: r => .tup [.int (i : Int), d] :: enumD (i + 1) r
theorem enumD_len : ∀ (i : Nat) (xs : List D), (enumD i xs).length = xs.length
  | _, [] => rfl
  | i, d :: r => congrArg (· + 1) (enumD_len (i + 1) r)
theorem enumD_get : ∀ (i j : Nat) (xs : List D) (d : D), xs[j]? = some d → (enumD i xs)[j]? = some (.tup [.int ((i + j : Nat) : Int), d])
  | _, _, [], _, h => by simp at h
  | i, 0, x :: r, d, h => by cases h; rfl
  | i, j + 1, x :: r, d, h => by
    have z := enumD_get (i + 1) j r d (by simpa using h)
    rw [show i + 1 + j = i + (j + 1) by omega] at z
    exact z
section
variable {X : Cx} {γ : Sto} {o o1 o2 : Own} {e e2 : Expr} {xs ys : List D} {pos p tpos : Pos} {elts : List Expr} {kk : Nat}
theorem ri_enum (hg : Gl X "enumerate") (hm : X.mg "enumerate" = none) (h : RE X e γ o (.tup xs) o1) (hs : starEach [e] X.env = (false, eval e X.env) :: starEach [] X.env := by rfl) : RI X (.Tuple elts kk tpos) (.Call (.Name "enumerate" p) [e] [] pos) γ o (enumD 0 xs) o1 :=
  ⟨PI.imp (pi_enumT hg hm (pa_cons h.p pa_nil hs) hs) fun σ H R ⟨Hb, F, w, s, q⟩ => ⟨Hb, F, w, s, fun v Hb1 H1 e1 w1 n1 => by
    cases n1 with
    | @tup a vs _ h1 l =>
      have ht : ∀ {Hb2 H2 : Hp}, Ex Hb1 Hb2 → Ex Hb2 H2 → SqT X.K H2 a vs := fun e2 e3 => SqT.of (e3 _ _ (e2 _ _ h1))
      refine ⟨a, vs, rfl, ht (Ex.refl _) w1.b, q _ Hb1 H1 e1 w1 ⟨fun i Hb2 H2 F' o' hi e2 _ w2 => ?_, fun Hb2 H2 F' o' e2 _ w2 => ⟨vs, ht e2 w2.b, by rw [enumD_len]; exact l.len⟩⟩⟩
      have hi' : i < xs.length := by rw [enumD_len] at hi; exact hi
      obtain ⟨v, hv, nv⟩ := l.get (List.getElem?_eq_getElem hi')
      refine ⟨⟨vs, v, ht e2 w2.b, hv⟩, fun x H3 y => ?_⟩
      obtain ⟨T, x', rfl, hT, rfl, hx⟩ := y
      have ex : x' = v := Option.some.inj ((hx vs (ht e2 w2.b)).symm.trans hv)
      subst ex
      obtain ⟨w3, e3⟩ := w2.new (u := .tup [.int (i : Nat), x']) hT
      refine ⟨_, e3, w3, ?_⟩
      have eg : (enumD 0 xs)[i] = .tup [.int (i : Int), xs[i]] := by
        have z := enumD_get 0 i xs _ (List.getElem?_eq_getElem hi')
        rw [Nat.zero_add] at z
        exact (List.getElem?_eq_some_iff.mp z).2
      rw [eg]
      exact .tup upd_same (.cons (.int _) (.cons (nv.mono (e2.trans e3)) .nil))⟩⟩
def pairD (p : D × D) : D := .tup [p.1, p.2]
theorem ri_zip (hg : Gl X "zip") (hm : X.mg "zip" = none) (ha : RA X [e, e2] γ o [.tup xs, .tup ys] o1) (hl : xs.length = ys.length)
    (hs : starEach [e, e2] X.env = (false, eval e X.env) :: starEach [e2] X.env := by rfl) (hpl : (backTo pos (starEach [e2] X.env)).any (·.1) = false := by rfl) : RI X (.Tuple elts kk tpos) (.Call (.Name "zip" p) [e, e2] [] pos) γ o ((xs.zip ys).map pairD) o1 :=
  ⟨PI.imp (RZ.pi_zipA hg hm ha.p hs hpl) fun σ H R ⟨Hb, F, w, s, q⟩ => ⟨Hb, F, w, s, fun vs Hb1 H1 e1 w1 n1 => by
    obtain ⟨v1, v2, rfl, n1, n2⟩ := denL2 n1
    cases n1 with
    | @tup a us _ h1 l1 =>
      cases n2 with
      | @tup b ws _ h2 l2 =>
        have ta : ∀ {Hb2 H2 : Hp}, Ex Hb1 Hb2 → Ex Hb2 H2 → SqT X.K H2 a us := fun e2 e3 => SqT.of (e3 _ _ (e2 _ _ h1))
        have tb : ∀ {Hb2 H2 : Hp}, Ex Hb1 Hb2 → Ex Hb2 H2 → SqT X.K H2 b ws := fun e2 e3 => SqT.of (e3 _ _ (e2 _ _ h2))
        have lz : ((xs.zip ys).map pairD).length = xs.length := by rw [List.length_map, List.length_zip, hl, Nat.min_self]
        refine ⟨a, b, us, ws, rfl, .inr ⟨ta (Ex.refl _) w1.b, tb (Ex.refl _) w1.b, q _ Hb1 H1 e1 w1 ⟨fun i Hb2 H2 F' o' hi e2 _ w2 => ?_, fun Hb2 H2 F' o' e2 _ w2 => ⟨us, ws, ta e2 w2.b, tb e2 w2.b, .inl (by rw [lz, l1.len]; exact Nat.le_refl _)⟩⟩⟩⟩
        have hx : i < xs.length := by rw [lz] at hi; exact hi
        have hy : i < ys.length := by rw [← hl]; exact hx
        obtain ⟨v, hv, nv⟩ := l1.get (List.getElem?_eq_getElem hx)
        obtain ⟨u, hu, nu⟩ := l2.get (List.getElem?_eq_getElem hy)
        refine ⟨⟨us, ws, v, u, ta e2 w2.b, tb e2 w2.b, hv, hu⟩, fun x H3 y => ?_⟩
        obtain ⟨T, x', y', rfl, hT, rfl, hx', hy'⟩ := y
        have ex : x' = v := Option.some.inj ((hx' us (ta e2 w2.b)).symm.trans hv)
        have ey : y' = u := Option.some.inj ((hy' ws (tb e2 w2.b)).symm.trans hu)
        subst ex
        subst ey
        obtain ⟨w3, e3⟩ := w2.new (u := .tup [x', y']) hT
        refine ⟨_, e3, w3, ?_⟩
        rw [List.getElem_map, List.getElem_zip]
        exact .tup upd_same (.cons (nv.mono (e2.trans e3)) (.cons (nu.mono (e2.trans e3)) .nil))⟩⟩
end
end J
end

section
set_option Elab.async false
set_option linter.all false
set_option maxRecDepth 100000
/-! lists against [], dict(l), one's own read and given away -/
namespace J
open PySem PySem.Spec PyProof.Rows L2
section
variable {X : Cx}
/-- xs == [], xs != [] -/
def rNil (K : PySem.W.Frag) (ne : Bool) : R2 := fun x y H Q => ∃ a b xs, x = .ref a ∧ y = .ref b ∧ SqL K H a xs ∧ SqL K H b [] ∧ Q (.bl (xs.isEmpty != ne)) H
theorem op_eqNil (hu : X.A.units < cLine) : OpR X (compareOp .Eq) (rNil X.K false) := by
  intro pins s σ H x y v u Q I rx ry h
  obtain ⟨a, b, xs, rfl, rfl, ha, hb, q⟩ := h
  cases rx
  cases ry
  obtain ⟨its, r1, p1, _⟩ := I.list ha
  obtain ⟨its2, r2, p2, _⟩ := I.list hb
  cases r2
  show wpAny _ _ (richCompare .Eq (.ref a) (.ref b)) _ _ s
  cases r1 with
  | nil => exact SeqAt.RcAt.lists (e := fun _ => true) p1.isList p2.isList rfl hu (fun j h1 => absurd h1 (Nat.not_lt_zero _)) _ _ _ _ ⟨.bl _, H, I, rfl, q⟩
  | cons r t => exact SeqAt.RcAt.lists_lengths p1.isList p2.isList (by simp) hu _ _ _ _ ⟨.bl _, H, I, rfl, q⟩
theorem op_neNil (hu : X.A.units < cLine) : OpR X (compareOp .NotEq) (rNil X.K true) := by
  intro pins s σ H x y v u Q I rx ry h
  obtain ⟨a, b, xs, rfl, rfl, ha, hb, q⟩ := h
  cases rx
  cases ry
  obtain ⟨its, r1, p1, _⟩ := I.list ha
  obtain ⟨its2, r2, p2, _⟩ := I.list hb
  cases r2
  show wpAny _ _ (richCompare .NotEq (.ref a) (.ref b)) _ _ s
  cases r1 with
  | nil => exact SeqAt.RcNeAt.lists (e := fun _ => true) p1.isList p2.isList rfl hu (fun j h1 => absurd h1 (Nat.not_lt_zero _)) _ _ _ _ ⟨.bl _, H, I, rfl, q⟩
  | cons r t => exact SeqAt.RcNeAt.lists_lengths p1.isList p2.isList (by simp) hu _ _ _ _ ⟨.bl _, H, I, rfl, q⟩
variable {γ : Sto} {o o1 o2 : Own} {e a b : Expr} {d d1 d2 : D} {ds xs : List D} {pos p : Pos}
/-- what stands there as a list: data, or one's own -/
inductive LstD (o : Own) : D → List D → Prop
  | lst {ds : List D} : LstD o (.lst ds) ds
  | own {p : Addr} {ds : List D} : (p, .lst ds) ∈ o → LstD o (.adr p) ds
theorem LstD.sq {K : PySem.W.Frag} {Hb F H : Hp} {v : V} (m : LstD o d ds) (w : Wd K Hb F o H) (n : Den K Hb v d) : ∃ a vs, v = .ref a ∧ SqL K H a vs ∧ DenL K Hb vs ds := by
  cases m with
  | lst => cases n with | lst h l => exact ⟨_, _, rfl, SqL.of (w.b _ _ h), l⟩
  | own hp =>
    cases n
    obtain ⟨vs, h, l⟩ := (w.own _ hp).2.2
    exact ⟨_, vs, rfl, SqL.of h, l⟩
theorem DenL.isEmpty {K : PySem.W.Frag} {H : Hp} : ∀ {vs : List V} {ds : List D}, DenL K H vs ds → vs.isEmpty = ds.isEmpty
  | _, _, .nil => rfl
  | _, _, .cons _ _ => rfl
theorem cmp_eqNil (hu : X.A.units < cLine) (m : LstD o d ds) : CmpD X .Eq o d (.lst []) (.bl ds.isEmpty) := ⟨_, op_eqNil hu, fun Hb F H x y Q w hx hy q => by
  obtain ⟨a, vs, rfl, h1, l⟩ := m.sq w hx
  cases hy with
  | lst h2 l2 =>
    cases l2
    exact ⟨a, _, vs, rfl, rfl, h1, SqL.of (w.b _ _ h2), by rw [l.isEmpty, Bool.bne_false]; exact q _ Hb H (Ex.refl _) w (.bl _)⟩⟩
theorem cmp_neNil (hu : X.A.units < cLine) (m : LstD o d ds) : CmpD X .NotEq o d (.lst []) (.bl (!ds.isEmpty)) := ⟨_, op_neNil hu, fun Hb F H x y Q w hx hy q => by
  obtain ⟨a, vs, rfl, h1, l⟩ := m.sq w hx
  cases hy with
  | lst h2 l2 =>
    cases l2
    exact ⟨a, _, vs, rfl, rfl, h1, SqL.of (w.b _ _ h2), by rw [l.isEmpty, Bool.bne_true]; exact q _ Hb H (Ex.refl _) w (.bl _)⟩⟩
theorem ty_tupleO {p : Addr} (hp : (p, .lst ds) ∈ o) : TyD X "tuple" o [.adr p] (.tup ds) := ⟨_, call_tuple_of, fun Hb F H vs Q w l q => by
  obtain ⟨v, rfl, n⟩ := denL1 l
  cases n
  obtain ⟨ws, h1, l1⟩ := (w.own _ hp).2.2
  refine ⟨_, _, rfl, .inl ⟨SqL.of h1, fun p hp => ?_⟩⟩
  obtain ⟨w2, e2⟩ := w.new (u := .tup _) hp
  exact q _ _ _ e2 w2 (.tup upd_same (l1.mono e2))⟩
theorem blt_lenO {p : Addr} (hp : (p, .lst ds) ∈ o) : BltD X "len" o [.adr p] (.int (ds.length : Int)) := ⟨_, call_len_seq, fun Hb F H vs Q w l q => by
  obtain ⟨v, rfl, n⟩ := denL1 l
  cases n
  obtain ⟨ws, h1, l1⟩ := (w.own _ hp).2.2
  exact ⟨_, _, rfl, .inl (SqL.of h1), by rw [l1.len]; exact q _ Hb H (Ex.refl _) w (.int _)⟩⟩
/-- own[lo:hi] -/
theorem re_slO {pa : Addr} {lo hi : Option Expr} {p2 : Pos} {i j : Option Int} {o3 : Own} (ha : RE X e γ o (.adr pa) o1) (hl : RO X lo γ o1 i o2) (hh : RO X hi γ o2 j o3) (hp : (pa, .lst ds) ∈ o3) : RE X (.Subscript e (.Slice lo hi none p2) pos) γ o (.lst (cutD ds i j)) o3 :=
  ⟨PE.imp (pe_slice sl_list ha.p hl.p hh.p) fun σ H Q ⟨Hb, F, w, s, q⟩ => ⟨Hb, F, w, s, fun x Hb1 H1 e1 w1 n1 => ⟨Hb1, F, w1, s.mono e1, fun Hb2 H2 e2 w2 => ⟨Hb2, F, w2, s.mono (e1.trans e2), fun Hb3 H3 e3 w3 => by
    cases n1
    obtain ⟨ws, h1, l⟩ := (w3.own _ hp).2.2
    refine ⟨_, _, rfl, SqL.of h1, fun p hp => ?_⟩
    obtain ⟨w4, e4⟩ := w3.new (u := .lst (cutV _ i j)) hp
    exact q _ _ _ (e1.trans ((e2.trans e3).trans e4)) w4 (.lst upd_same ((l.cut i j).mono e4))⟩⟩⟩⟩
/-! ### dict(l) -/
theorem denL_pairsT {K : PySem.W.Frag} {H : Hp} {α : Type} (k : α → List Key) (f : α → D) : ∀ {vs : List V} {L : List α}, DenL K H vs (L.map fun x => D.tup [.tup ((k x).map keyD), f x]) →
    ∃ (ps : List Addr) (kvs : List (List Key × V)), vs = ps.map V.ref ∧ PrT K H ps kvs ∧ DenT K H kvs (L.map fun x => (k x, f x))
  | _, [], .nil => ⟨[], [], rfl, .nil, .nil⟩
  | _, x :: L, .cons h l => by
    obtain ⟨ps, kvs, rfl, r, t⟩ := denL_pairsT k f l
    cases h with
    | @tup a _ _ h1 l1 =>
      cases l1 with
      | cons n1 l1 =>
        cases l1 with
        | cons n2 l1 =>
          cases l1
          cases n1 with
          | tup h2 l2 =>
            have ek := l2.keys
            subst ek
            exact ⟨a :: ps, _, rfl, .cons (SqT.of h1) h2 r, .cons n2 t⟩
theorem denL_pairsK {K : PySem.W.Frag} {H : Hp} {α : Type} (k : α → Key) (f : α → D) : ∀ {vs : List V} {L : List α}, DenL K H vs (L.map fun x => D.tup [keyD (k x), f x]) →
    ∃ (ps : List Addr) (kvs : List (Key × V)), vs = ps.map V.ref ∧ Paired (fun p kv => SqT K H p [kV kv.1, kv.2]) ps kvs ∧ DenK K H kvs (L.map fun x => (k x, f x))
  | _, [], .nil => ⟨[], [], rfl, .nil, .nil⟩
  | _, x :: L, .cons h l => by
    obtain ⟨ps, kvs, rfl, r, t⟩ := denL_pairsK k f l
    cases h with
    | @tup a _ _ h1 l1 =>
      cases l1 with
      | cons n1 l1 =>
        cases l1 with
        | @cons v2 _ _ _ n2 l1 =>
          cases l1
          have ek : ∀ {v : V}, Den K H v (keyD (k x)) → v = kV (k x) := fun n => by
            cases hk : k x with
            | inl i => rw [hk] at n; cases n; rfl
            | inr i => rw [hk] at n; cases n; rfl
          rw [ek n1] at h1
          exact ⟨a :: ps, (k x, v2) :: kvs, rfl, .cons (SqT.of h1) r, .cons n2 t⟩
theorem PrT.mono {K : PySem.W.Frag} {H H' : Hp} (e : Ex H H') : ∀ {ps : List Addr} {kvs : List (List Key × V)}, PrT K H ps kvs → PrT K H' ps kvs
  | _, _, .nil => .nil
  | _, _, .cons h hb t => .cons (e.sqt h) (e _ _ hb) (t.mono e)
theorem ty_dictT {α : Type} {L : List α} {k : α → List Key} {f : α → D} (hc : X.calm = true) (hu : X.A.units + 3 < cLine) : TyD X "dict" o [.lst (L.map fun x => D.tup [.tup ((k x).map keyD), f x])] (.dT (mergeD [] (L.map fun x => (k x, f x)))) := ⟨_, cr_dictT hc hu, fun Hb F H vs Q w l q => by
  obtain ⟨v, rfl, n⟩ := denL1 l
  cases n with
  | lst h1 l =>
    obtain ⟨ps, kvs, rfl, r, t⟩ := denL_pairsT k f l
    refine ⟨_, ps, kvs, rfl, SqL.of (w.b _ _ h1), r.mono w.b, fun p od hp => ?_⟩
    obtain ⟨w2, e2⟩ := w.new (u := .frz od (.dT (mergeT [] kvs))) hp
    exact q _ _ _ e2 w2 (.dT upd_same ((DenT.merge t .nil).mono e2))⟩
theorem pairs_mono {K : PySem.W.Frag} {H H' : Hp} (e : Ex H H') : ∀ {ps : List Addr} {kvs : List (Key × V)}, Paired (fun p kv => SqT K H p [kV kv.1, kv.2]) ps kvs → Paired (fun p kv => SqT K H' p [kV kv.1, kv.2]) ps kvs
  | _, _, .nil => .nil
  | _, _, .cons h t => .cons (e.sqt h) (pairs_mono e t)
theorem ty_dictK {α : Type} {L : List α} {k : α → Key} {f : α → D} (hc : X.calm = true) : TyD X "dict" o [.lst (L.map fun x => D.tup [keyD (k x), f x])] (.dK (mergeD [] (L.map fun x => (k x, f x)))) := ⟨_, cr_dictK hc, fun Hb F H vs Q w l q => by
  obtain ⟨v, rfl, n⟩ := denL1 l
  cases n with
  | lst h1 l =>
    obtain ⟨ps, kvs, rfl, r, t⟩ := denL_pairsK k f l
    refine ⟨_, ps, kvs, rfl, SqL.of (w.b _ _ h1), pairs_mono w.b r, fun p od hp => ?_⟩
    obtain ⟨w2, e2⟩ := w.new (u := .frz od (.dK (mergeK [] kvs))) hp
    exact q _ _ _ e2 w2 (.dK upd_same ((DenK.merge t .nil).mono e2))⟩
/-- a dict of states -/
def stT (m : List (List Int × D)) : D := .dT (m.map fun p => (ky p.1, p.2))
theorem ky_D (s : List Int) : (ky s).map keyD = s.map D.int := by unfold ky; rw [List.map_map]; rfl
theorem ty_dictS {L : List (List Int)} {f : List Int → D} (hc : X.calm = true) (hu : X.A.units + 3 < cLine) (hn : L.Nodup) : TyD X "dict" o [.lst (L.map fun s => D.tup [stD s, f s])] (stT (L.map fun s => (s, f s))) := by
  have z := ty_dictT (X := X) (o := o) (L := L) (k := ky) (f := f) hc hu
  have e1 : (L.map fun s => D.tup [stD s, f s]) = L.map fun x => D.tup [.tup ((ky x).map keyD), f x] := List.map_congr_left fun s _ => by rw [ky_D]; rfl
  rw [e1]
  have e2 : mergeD [] (L.map fun x => (ky x, f x)) = L.map fun x => (ky x, f x) := by
    refine (mergeD_nodup _ _ ?_).trans (List.nil_append _)
    rw [List.nil_append, List.map_map]
    exact List.Pairwise.map _ (fun a b h e => h (ky_inj e)) hn
  rw [e2] at z
  unfold stT
  rw [List.map_map]
  exact z
theorem gets_S {K : PySem.W.Frag} {m : List (List Int × D)} {s : List Int} : Gets K o (stT m) (stD s) (valD m s) := by
  have z := gets_T (K := K) (o := o) (kvs := m.map fun p => (ky p.1, p.2)) (ks := ky s)
  rw [valD_map ky_inj, ky_D] at z
  exact z
theorem gets_oS {K : PySem.W.Frag} {p : Addr} {m : List (List Int × D)} {s : List Int} (hp : (p, stT m) ∈ o) : Gets K o (.adr p) (stD s) (valD m s) := by
  have z := gets_oT (K := K) (o := o) (kvs := m.map fun p => (ky p.1, p.2)) (ks := ky s) hp
  rw [valD_map ky_inj, ky_D] at z
  exact z
theorem gets_oFS {K : PySem.W.Frag} {p : Addr} {od : Obj} {ws : List (List Key × V)} {m : List (List Int × D)} {s : List Int} (hp : (p, .fT od ws (m.map fun p => (ky p.1, p.2))) ∈ o) : Gets K o (.adr p) (stD s) (valD m s) := by
  have z := gets_oF (K := K) (o := o) (kvs := m.map fun p => (ky p.1, p.2)) (ks := ky s) hp
  rw [valD_map ky_inj, ky_D] at z
  exact z
theorem rs_dputS {i : Expr} {o3 : Own} {pos' : Pos} {p : Addr} {m : List (List Int × D)} {s : List Int} (hu : X.A.units + 1 < cLine) (hv : RE X e γ o d o1) (ha : RE X a γ o1 (.adr p) o2) (hi : RE X i γ o2 (stD s) o3) (hp : (p, stT m) ∈ o3) (hl : m.length ≤ 100000)
    (hs : swapsWith e (some (.Subscript a i pos')) pos.line X.env = pure false := by rfl) : RS X (.Assign [.Subscript a i pos'] e pos) γ o (.nx γ (setO o3 p (stT (putD m s d)))) := by
  have z := rs_dputT (X := X) (ks := ky s) (pos := pos) (pos' := pos') hu hv ha (by rw [ky_D]; exact hi) hp (by rw [List.length_map]; exact hl) hs
  rw [putD_map ky_inj] at z
  exact z
theorem re_dpopS {o2 : Own} {p : Addr} {apos cpos : Pos} {m m1 : List (List Int × D)} {s : List Int} (hu : X.A.units + 1 < cLine) (ha : RE X a γ o (.adr p) o1) (he : RE X e γ o1 (stD s) o2) (hp1 : (p, stT m1) ∈ o1) (hp : (p, stT m) ∈ o2) (hv : valD m s = some d) (hb : BmB X a "pop" := by rfl) (hf : BmF X [e] cpos := by rfl)
    (hline : (apos.endLine == cpos.line) = true := by rfl) (hs : starEach [e] X.env = (false, eval e X.env) :: starEach [] X.env := by rfl) (hpl : (backTo cpos (starEach [] X.env)).any (·.1) = false := by rfl) :
    RE X (.Call (.Attribute a "pop" apos) [e] [] cpos) γ o d (setO o2 p (stT (dropD m s))) := by
  have z := re_dpop (X := X) (ks := ky s) (d := d) hu ha (by rw [ky_D]; exact he) hp1 hp (by rw [valD_map ky_inj]; exact hv) hb hf hline hs hpl
  rw [dropD_map ky_inj] at z
  exact z
theorem ri_keysS {tg : Expr} {m : List (List Int × D)} (h : RE X e γ o (stT m) o1) : RI X tg e γ o ((m.map (·.1)).map stD) o1 := by
  have z := ri_keys (tg := tg) h
  rw [List.map_map] at z
  rw [List.map_map]
  rw [show (stD ∘ fun x => x.1) = ((fun kv : List Key × D => keyT kv.1) ∘ fun p : List Int × D => (ky p.1, p.2)) from funext fun p => by
    show stD p.1 = keyT (ky p.1)
    unfold keyT
    rw [ky_D]; rfl]
  exact z
theorem ri_keysOS {tg : Expr} {p : Addr} {od : Obj} {ws : List (List Key × V)} {m : List (List Int × D)} (h : RE X e γ o (.adr p) o1) (hp : (p, D.fT od ws (m.map fun p => (ky p.1, p.2))) ∈ o1) : RI X tg e γ o ((m.map (·.1)).map stD) o1 (fun o' => (p, D.fT od ws (m.map fun p => (ky p.1, p.2))) ∈ o') := by
  have z := ri_keysO (tg := tg) h hp
  rw [List.map_map] at z
  rw [List.map_map]
  rw [show (stD ∘ fun x => x.1) = ((fun kv : List Key × D => keyT kv.1) ∘ fun p : List Int × D => (ky p.1, p.2)) from funext fun p => by
    show stD p.1 = keyT (ky p.1)
    unfold keyT
    rw [ky_D]; rfl]
  exact z
/-! ### given away -/
/-- a thing is locked, for good -/
theorem pe_glock {te : TE} (h : PE X e te) : PE X e (fun σ H Q => te σ H fun v H1 => ∃ (a : Addr) (u : HO), H1 a = some u ∧ Mut (some u) ∧ ∀ od, Q v (upd H1 a (.frz od u))) := by
  refine ⟨fun pins s σ H Q I hw => thn (h.run pins s σ H _ I hw) fun v s1 ⟨x, H1, I1, r, a, u, ha, mu, q⟩ => ?_⟩
  obtain ⟨od, I2⟩ := I1.lock ha mu
  exact ⟨x, _, I2, r, q od⟩
def outO (o : Own) (p : Addr) : Own := o.filter fun q => decide (q.1 ≠ p)
theorem outO_sub (o : Own) (p : Addr) : (outO o p).Sublist o := List.filter_sublist
theorem outO_not (o : Own) (p : Addr) : p ∉ (outO o p).map (·.1) := fun h => by
  obtain ⟨q, hq, e⟩ := List.mem_map.mp h
  have := (List.mem_filter.mp hq).2
  exact of_decide_eq_true this e
/-- an own dict, as data -/
theorem re_pubT {p : Addr} {kvs : List (List Key × D)} (h : RE X e γ o (.adr p) o1) (hp : (p, .dT kvs) ∈ o1) : RE X e γ o (.dT kvs) (outO o1 p) :=
  ⟨PE.imp (pe_glock h.p) fun σ H Q ⟨Hb, F, w, s, q⟩ => ⟨Hb, F, w, s, fun v Hb1 H1 e1 w1 n1 => by
    cases n1
    obtain ⟨ws, h1, l⟩ := (w1.own _ hp).2.2
    refine ⟨p, _, h1, True.intro, fun od => ?_⟩
    obtain ⟨ex, w2⟩ := w1.pubU hp (outO_sub o1 p) (outO_not o1 p) (.frz od (.dT ws))
    exact q _ _ _ (e1.trans ex) w2 (.dT upd_same (l.mono ex))⟩⟩
theorem re_pubS {p : Addr} {m : List (List Int × D)} (h : RE X e γ o (.adr p) o1) (hp : (p, stT m) ∈ o1) : RE X e γ o (stT m) (outO o1 p) := re_pubT h hp
theorem re_pubL {p : Addr} (h : RE X e γ o (.adr p) o1) (hp : (p, .lst ds) ∈ o1) : RE X e γ o (.lst ds) (outO o1 p) :=
  ⟨PE.imp h.p fun σ H Q ⟨Hb, F, w, s, q⟩ => ⟨Hb, F, w, s, fun v Hb1 H1 e1 w1 n1 => by
    cases n1
    obtain ⟨Hb2, ex, w2, n2⟩ := w1.pubL hp (outO_sub o1 p) (outO_not o1 p)
    exact q _ _ _ (e1.trans ex) w2 n2⟩⟩
end
end J
end

section
set_option Elab.async false
set_option linter.all false
set_option maxRecDepth 100000
/-! {k: v, ..} -/
namespace J
open PySem PySem.Spec PyProof.Rows L2
section
variable {X : Cx} {γ : Sto} {o o1 : Own} {pos : Pos}
/-- the pairs of a display, none of which changes what is one's own -/
inductive RPs (X : Cx) (γ : Sto) (o : Own) : List (Option Expr) → List Expr → List (Key × D) → Prop
  | nil : RPs X γ o [] [] []
  | cons {k v : Expr} {kk : Key} {d : D} {ks : List (Option Expr)} {vs : List Expr} {ps : List (Key × D)} : (∀ p, Fresh o p → RE X k γ ((p, .dK []) :: o) (keyD kk) ((p, .dK []) :: o)) → (∀ p, Fresh o p → RE X v γ ((p, .dK []) :: o) d ((p, .dK []) :: o)) →
      RPs X γ o ks vs ps → RPs X γ o (some k :: ks) (v :: vs) ((kk, d) :: ps)
theorem RPs.go {keys : List (Option Expr)} {values : List Expr} {ps : List (Key × D)} (h : RPs X γ o keys values ps) : ∃ trs, (∀ pos, PPs X pos keys values trs) ∧ keys.all (·.isSome) = true ∧ keys.length = values.length ∧ keys.length = ps.length ∧
    ∀ p, Fresh o p → ∀ (σ : L2.St) (Hb F H : Hp) (Q : List (V × V) → Hp → Prop), Wd X.K Hb F ((p, .dK []) :: o) H → Stt X.K Hb γ σ →
      (∀ (vs : List (Key × V)) (Hb' H' : Hp), Ex Hb Hb' → Wd X.K Hb' F ((p, .dK []) :: o) H' → DenK X.K Hb' vs ps → Q (vs.map fun kv => (kV kv.1, kv.2)) H') → tPairs trs σ H Q := by
  induction h with
  | nil => exact ⟨[], fun _ => pps_nil, rfl, rfl, rfl, fun p hp σ Hb F H Q w s q => q [] Hb H (Ex.refl _) w .nil⟩
  | @cons k v kk d ks vs ps hk hv _ ih =>
    obtain ⟨trs, h1, h2, h3, h4, h5⟩ := ih
    have pk : PE X k (fun σ H Q => ∃ p, Fresh o p ∧ tE X.K γ ((p, .dK []) :: o) (keyD kk) ((p, .dK []) :: o) σ H Q) := ⟨fun pins s σ H Q I ⟨p, hp, z⟩ => (hk p hp).p.run pins s σ H Q I z⟩
    have pv : PE X v (fun σ H Q => ∃ p, Fresh o p ∧ tE X.K γ ((p, .dK []) :: o) d ((p, .dK []) :: o) σ H Q) := ⟨fun pins s σ H Q I ⟨p, hp, z⟩ => (hv p hp).p.run pins s σ H Q I z⟩
    refine ⟨_, fun pos => pps_cons pk pv (h1 pos), by rw [List.all_cons, h2]; rfl, by rw [List.length_cons, List.length_cons, h3], by rw [List.length_cons, List.length_cons, h4], fun p hp σ Hb F H Q w s q => ?_⟩
    refine ⟨p, hp, Hb, F, w, s, fun x Hb1 H1 e1 w1 n1 => ⟨p, hp, Hb1, F, w1, s.mono e1, fun y Hb2 H2 e2 w2 n2 => ?_⟩⟩
    have ex : x = kV kk := by
      cases kk with
      | inl i => cases n1; rfl
      | inr i => cases n1; rfl
    subst ex
    exact h5 p hp σ Hb2 F H2 _ w2 (s.mono (e1.trans e2)) fun vs Hb3 H3 e3 w3 n3 => q ((kk, y) :: vs) Hb3 H3 (e1.trans (e2.trans e3)) w3 (.cons (n2.mono e3) n3)
/-- {k: v, ..}, one's own -/
theorem reg_disp {keys : List (Option Expr)} {values : List Expr} {ps : List (Key × D)} (h : RPs X γ o keys values ps) (h0 : keys ≠ []) (h15 : keys.length ≤ 15) : REG X (.Dict keys values pos) γ o (fun d o' => ∃ p, d = .adr p ∧ Fresh o p ∧ o' = (p, .dK (mergeD [] ps)) :: o) := by
  obtain ⟨trs, h1, h2, h3, h4, h5⟩ := h.go
  refine ⟨PE.imp (pe_disp (h1 pos) h2 h3 h0 h15) fun σ H Q ⟨Hb, F, w, s, q⟩ => fun p hp => ?_⟩
  have hf := w.fresh hp
  refine h5 p hf σ Hb F _ _ (w.newOwn hp ⟨[], upd_same, .nil⟩) s fun vs Hb' H' e1 w1 n1 => ?_
  have hm : (p, D.dK []) ∈ (p, D.dK []) :: o := List.mem_cons_self
  obtain ⟨ws0, h6, l0⟩ := (w1.own _ hm).2.2
  cases l0
  have lv : vs.length = ps.length := n1.len
  refine ⟨h6, vs, rfl, by rw [lv, ← h4]; exact h15, q (.adr p) _ _ Hb' _ ⟨p, rfl, hf, rfl⟩ e1 ?_ (.adr p)⟩
  have w2 := w1.write (d := .dK (mergeD [] ps)) (u := .dK (mergeK [] vs)) hm ⟨_, upd_same, DenK.merge n1 .nil⟩
  rw [setO_cons hf] at w2
  exact w2
/-- {k: v, ..}[word] -/
theorem re_pick {e : Expr} {keys : List (Option Expr)} {values : List Expr} {ps : List (Key × D)} {kk : Key} {d : D} {dpos : Pos} (hu : X.A.units + 1 < cLine) (h : RPs X γ o keys values ps) (h0 : keys ≠ []) (h15 : keys.length ≤ 15) (he : ∀ p, Fresh o p → RE X e γ ((p, .dK (mergeD [] ps)) :: o) (keyD kk) ((p, .dK (mergeD [] ps)) :: o))
    (hv : valD (mergeD [] ps) kk = some d) (hs : NoSl e := by exact fun _ _ => rfl) : RE X (.Subscript (.Dict keys values dpos) e pos) γ o d o := by
  have pe' : PE X e (fun σ H Q => ∃ p, Fresh o p ∧ tE X.K γ ((p, .dK (mergeD [] ps)) :: o) (keyD kk) ((p, .dK (mergeD [] ps)) :: o) σ H Q) := ⟨fun pins s σ H Q I ⟨p, hp, z⟩ => (he p hp).p.run pins s σ H Q I z⟩
  refine ⟨PE.imp (pe_dget hu (reg_disp h h0 h15).p pe' hs) fun σ H Q ⟨Hb, F, w, s, q⟩ => ⟨Hb, F, w, s, fun x o' v Hb1 H1 ⟨p, ex, hf, eo⟩ e1 w1 n1 => ?_⟩⟩
  subst ex eo
  refine ⟨p, hf, Hb1, F, w1, s.mono e1, fun y Hb2 H2 e2 w2 n2 => ?_⟩
  cases n1
  obtain ⟨a, ov, ea, g, hd⟩ := (gets_oK (K := X.K) (k := kk) (List.mem_cons_self : (p, D.dK (mergeD [] ps)) ∈ (p, D.dK (mergeD [] ps)) :: o)).t Hb2 F H2 _ y w2 (.adr p) n2
  cases ea
  rw [hv] at hd
  cases hd with
  | some hd => exact ⟨p, _, rfl, g, q _ Hb2 H2 (e1.trans e2) (w2.drop (List.sublist_cons_self _ _)) hd⟩
end
end J
end

section
set_option Elab.async false
set_option linter.all false
set_option maxRecDepth 100000
/-! ==, in: names, states, ends -/
namespace J
open PySem PySem.Spec PyProof.Rows L2
abbrev NmOk (x : Str) : Prop := PyData.strOk x = true
theorem okStr {x : Str} (h : NmOk x) : okD (.str x) := (Lay.str (n := 0) x h).shaped (by decide)
theorem okNon : okD .non := (Lay.non (n := 0)).shaped (by decide)
theorem lay_st (s : List Int) : Lay 1 (stD s) := .tup fun d hd => by
  obtain ⟨i, _, rfl⟩ := List.mem_map.mp hd
  exact .int i
theorem okSt (s : List Int) : okD (stD s) := (lay_st s).shaped (by decide)
theorem eqD_str (x y : Str) : eqD (.str x) (.str y) = decide (x = y) := by
  show (x == y) = _
  rfl
theorem eqvAll_ints : ∀ a b : List Int, PyData.eqvAll (pyL (a.map D.int)) (pyL (b.map D.int)) = decide (a = b)
  | [], [] => rfl
  | [], _ :: _ => rfl
  | _ :: _, [] => rfl
  | x :: a, y :: b => by
    show ((x == y) && PyData.eqvAll (pyL (a.map D.int)) (pyL (b.map D.int))) = _
    rw [eqvAll_ints a b]
    by_cases h : x = y
    · subst h
      rw [beq_self_eq_true, Bool.true_and]
      exact decide_eq_decide.mpr ⟨fun e => by rw [e], fun e => (List.cons.inj e).2⟩
    · rw [beq_eq_false_iff_ne.mpr h, Bool.false_and]
      exact (decide_eq_false fun e => h (List.cons.inj e).1).symm
theorem eqD_st (a b : List Int) : eqD (stD a) (stD b) = decide (a = b) := eqvAll_ints a b
theorem inD_st (s : List Int) : ∀ L : List (List Int), inD (stD s) (L.map stD) = decide (s ∈ L)
  | [] => rfl
  | x :: L => by
    show (eqD (stD x) (stD s) || inD (stD s) (L.map stD)) = _
    rw [eqD_st, inD_st s L, ← Bool.decide_or]
    exact decide_eq_decide.mpr ⟨fun h => h.elim (fun e => by rw [e]; exact List.mem_cons_self) (List.mem_cons_of_mem _), fun h => (List.mem_cons.mp h).imp Eq.symm id⟩
theorem inD_str (x : Str) : ∀ L : List Str, inD (.str x) (L.map .str) = decide (x ∈ L)
  | [] => rfl
  | y :: L => by
    show (eqD (.str y) (.str x) || inD (.str x) (L.map .str)) = _
    rw [eqD_str, inD_str x L, ← Bool.decide_or]
    exact decide_eq_decide.mpr ⟨fun h => h.elim (fun e => by rw [e]; exact List.mem_cons_self) (List.mem_cons_of_mem _), fun h => (List.mem_cons.mp h).imp Eq.symm id⟩
/-- what a command comes to from a state: None, or the states -/
def endsD : Option (List (List Int)) → D
  | none => .non
  | some L => .tup (L.map stD)
theorem lay_ends : ∀ r : Option (List (List Int)), Lay 2 (endsD r)
  | none => .non
  | some L => .tup fun d hd => by
    obtain ⟨s, _, rfl⟩ := List.mem_map.mp hd
    exact lay_st s
theorem okEnds (r : Option (List (List Int))) : okD (endsD r) := (lay_ends r).shaped (by decide)
theorem inD_non : ∀ rows : List (Option (List (List Int))), inD .non (rows.map endsD) = rows.any (·.isNone)
  | [] => rfl
  | none :: _ => rfl
  | some L :: r => by
    show (eqD (.tup (L.map stD)) .non || inD .non (r.map endsD)) = _
    rw [inD_non r]
    rfl
theorem isNon_ends : ∀ r : Option (List (List Int)), (endsD r).isNon = r.isNone
  | none => rfl
  | some _ => rfl
section
variable {X : Cx} {o : Own}
theorem isi_of {T c : String} {k : Bool} {d : D} (hc : d.cls = c) (hb : kitB c T = some k) (hn : c ≠ "") : BltD X "isinstance" o [d, .ty T] (.bl k) := by
  subst hc
  exact blt_isi hb hn
/-- x in a list, a tuple, of texts; of states -/
theorem cmp_inStr {d : D} {x : Str} {L : List Str} (hu : X.A.units + 65 < cLine) (m : Many d (L.map .str)) (hx : NmOk x) (hl : ∀ y ∈ L, NmOk y) {k : Bool} (hk : decide (x ∈ L) = k) : CmpD X .In o (.str x) d (.bl k) :=
  hk ▸ cmp_in hu m (okStr hx) (fun e he => by obtain ⟨y, hy, rfl⟩ := List.mem_map.mp he; exact okStr (hl y hy)) (inD_str x L)
theorem cmp_ninStr {d : D} {x : Str} {L : List Str} (hu : X.A.units + 65 < cLine) (m : Many d (L.map .str)) (hx : NmOk x) (hl : ∀ y ∈ L, NmOk y) {k : Bool} (hk : decide (x ∈ L) = k) : CmpD X .NotIn o (.str x) d (.bl (!k)) :=
  hk ▸ cmp_nin hu m (okStr hx) (fun e he => by obtain ⟨y, hy, rfl⟩ := List.mem_map.mp he; exact okStr (hl y hy)) (inD_str x L)
theorem cmp_inSt {d : D} {s : List Int} {L : List (List Int)} (hu : X.A.units + 65 < cLine) (m : Many d (L.map stD)) : CmpD X .In o (stD s) d (.bl (decide (s ∈ L))) :=
  cmp_in hu m (okSt s) (fun e he => by obtain ⟨y, hy, rfl⟩ := List.mem_map.mp he; exact okSt y) (inD_st s L)
theorem cmp_ninSt {d : D} {s : List Int} {L : List (List Int)} (hu : X.A.units + 65 < cLine) (m : Many d (L.map stD)) : CmpD X .NotIn o (stD s) d (.bl (!decide (s ∈ L))) :=
  cmp_nin hu m (okSt s) (fun e he => by obtain ⟨y, hy, rfl⟩ := List.mem_map.mp he; exact okSt y) (inD_st s L)
end
theorem Room.u65 {k : Nat} {A : Around} (r : Room k A) : A.units + 65 < cLine := by have := r.un; omega
theorem Room.u64 {k : Nat} {A : Around} (r : Room k A) : A.units + 64 < cLine := by have := r.un; omega
theorem Room.u3 {k : Nat} {A : Around} (r : Room k A) : A.units + 3 < cLine := by have := r.un; omega
theorem Room.u1 {k : Nat} {A : Around} (r : Room k A) : A.units + 1 < cLine := by have := r.un; omega
theorem Room.u0 {k : Nat} {A : Around} (r : Room k A) : A.units < cLine := by have := r.un; omega
section
variable {X : Cx} {γ : Sto} {o o1 : Own} {a b : Expr} {k l : Bool} {pos : Pos}
/-- tests of two, that leave what is one's own -/
theorem rt_or2 (ha : RT X a γ o k o) (hb : RT X b γ o l o) : RT X (.BoolOp .Or [a, b] pos) γ o (k || l) o := rt_w (rw_or ha (rw_or1 hb) fun _ => rfl)
theorem rt_and2 (ha : RT X a γ o k o) (hb : RT X b γ o l o) : RT X (.BoolOp .And [a, b] pos) γ o (k && l) o := rt_w (rw_and ha (rw_and1 hb) fun _ => rfl)
theorem rt_orT2 (ha : RT X a γ o true o1) : RT X (.BoolOp .Or [a, b] pos) γ o true o1 := rt_w (rw_orT ha pw_any)
theorem rt_andF2 (ha : RT X a γ o false o1) : RT X (.BoolOp .And [a, b] pos) γ o false o1 := rt_w (rw_andF ha pw_any)
theorem rt_orB (ha : RT X a γ o k o) (hb : k = false → RT X b γ o l o) : RT X (.BoolOp .Or [a, b] pos) γ o (k || l) o := by
  cases k with
  | true => exact rt_orT2 ha
  | false => exact rt_or2 ha (hb rfl)
theorem rt_andB (ha : RT X a γ o k o) (hb : k = true → RT X b γ o l o) : RT X (.BoolOp .And [a, b] pos) γ o (k && l) o := by
  cases k with
  | true => exact rt_and2 ha (hb rfl)
  | false => exact rt_andF2 ha
theorem re_andB (ha : RE X a γ o (.bl k) o) (hb : k = true → RE X b γ o (.bl l) o) : RE X (.BoolOp .And [a, b] pos) γ o (.bl (k && l)) o := by
  cases k with
  | true => exact re_andT ha (re_one (hb rfl))
  | false => exact re_andF ha
theorem re_orB (ha : RE X a γ o (.bl k) o) (hb : k = false → RE X b γ o (.bl l) o) : RE X (.BoolOp .Or [a, b] pos) γ o (.bl (k || l)) o := by
  cases k with
  | true => exact re_orT ha
  | false => exact re_orF ha (re_one (hb rfl))
end
/-- a name, by its place first -/
theorem re_v {X : Cx} {γ : Sto} {o : Own} {d : D} {pos : Pos} (i : Nat) {x : Str} (hN : X.N[i]? = some x) (hg : γ[i]? = some (some d)) (hv : Vis X.env.scope x) (hd : (x == ("__debug__" : Str)) = false := by decide) (hcd : (x == ("__classdict__" : Str)) = false := by decide) : RE X (.Name x pos) γ o d o := re_var i hg hN hv hd hcd
theorem rl_eq {X : Cx} {elt : Expr} {gens : List Comprehension} {scope : Scope} {γ : Sto} {o o' : Own} {d d' : D} (h : RLc X elt gens scope γ o d' o') (e : d' = d) : RLc X elt gens scope γ o d o' := e ▸ h
theorem re_eq {X : Cx} {e : Expr} {γ : Sto} {o o' : Own} {d d' : D} (h : RE X e γ o d' o') (he : d' = d) : RE X e γ o d o' := he ▸ h
theorem rt_eq {X : Cx} {e : Expr} {γ : Sto} {o o' : Own} {d d' : Bool} (h : RT X e γ o d' o') (he : d' = d) : RT X e γ o d o' := he ▸ h
theorem ri_eq {X : Cx} {tg e : Expr} {γ : Sto} {o o' : Own} {xs ys : List D} {N : Own → Prop} (h : RI X tg e γ o xs o' N) (he : xs = ys) : RI X tg e γ o ys o' N := he ▸ h
theorem getElem_nat {α : Type} {l : List α} {j : Nat} {x : α} (h : l[j]? = some x) : j < l.length ∧ x ∈ l := ⟨(List.getElem?_eq_some_iff.mp h).1, List.mem_of_getElem? h⟩
end J
end

section
set_option Elab.async false
set_option linter.all false
set_option maxRecDepth 100000
namespace J
open PySem PySem.Spec PyProof.Rows L2
def topS (i : Nat) : Stmt := PySem.Challenge.pw_closersteps_k49_whole_lots_ahead_put_tog.main.body.getD i (.Pass ⟨0, 0, 0, 0⟩)
abbrev s_is_integer : Stmt := topS 1
abbrev n_is_integer : List Str := ["thing"]
theorem sc_is_integer : FnScope n_is_integer ["thing"] (defScope s_is_integer) := ⟨rfl, rfl, rfl, by decide +kernel, rfl, by decide +kernel, by decide +kernel⟩
abbrev s_names_of : Stmt := topS 3
abbrev n_names_of : List Str := ["frame", "own"]
theorem sc_names_of : FnScope n_names_of ["frame"] (defScope s_names_of) := ⟨rfl, rfl, rfl, by decide +kernel, rfl, by decide +kernel, by decide +kernel⟩
abbrev s_place_of : Stmt := topS 4
abbrev n_place_of : List Str := ["frame", "name", "names"]
theorem sc_place_of : FnScope n_place_of ["frame", "name"] (defScope s_place_of) := ⟨rfl, rfl, rfl, by decide +kernel, rfl, by decide +kernel, by decide +kernel⟩
abbrev s_states_of : Stmt := topS 5
abbrev n_states_of : List Str := ["frame", "found", "_", "low", "high", "state", "value"]
theorem sc_states_of : FnScope n_states_of ["frame"] (defScope s_states_of) := ⟨rfl, rfl, rfl, by decide +kernel, rfl, by decide +kernel, by decide +kernel⟩
abbrev s_is_state : Stmt := topS 6
abbrev n_is_state : List Str := ["frame", "thing", "own", "_", "low", "high"]
theorem sc_is_state : FnScope n_is_state ["frame", "thing"] (defScope s_is_state) := ⟨rfl, rfl, rfl, by decide +kernel, rfl, by decide +kernel, by decide +kernel⟩
abbrev s_with_name : Stmt := topS 7
abbrev n_with_name : List Str := ["frame", "name", "low", "high"]
theorem sc_with_name : FnScope n_with_name ["frame", "name", "low", "high"] (defScope s_with_name) := ⟨rfl, rfl, rfl, by decide +kernel, rfl, by decide +kernel, by decide +kernel⟩
abbrev s_with_values : Stmt := topS 8
abbrev n_with_values : List Str := ["frame", "state", "values", "own", "value"]
theorem sc_with_values : FnScope n_with_values ["frame", "state", "values"] (defScope s_with_values) := ⟨rfl, rfl, rfl, by decide +kernel, rfl, by decide +kernel, by decide +kernel⟩
abbrev s_worth : Stmt := topS 11
abbrev n_worth : List Str := ["frame", "state", "old", "expr", "word", "one", "other"]
theorem sc_worth : FnScope n_worth ["frame", "state", "old", "expr"] (defScope s_worth) := ⟨rfl, rfl, rfl, by decide +kernel, rfl, by decide +kernel, by decide +kernel⟩
abbrev s_holds : Stmt := topS 12
abbrev n_holds : List Str := ["frame", "state", "old", "cond", "word", "one", "other"]
theorem sc_holds : FnScope n_holds ["frame", "state", "old", "cond"] (defScope s_holds) := ⟨rfl, rfl, rfl, by decide +kernel, rfl, by decide +kernel, by decide +kernel⟩
abbrev s_inner_frame : Stmt := topS 14
abbrev n_inner_frame : List Str := ["frame", "command"]
theorem sc_inner_frame : FnScope n_inner_frame ["frame", "command"] (defScope s_inner_frame) := ⟨rfl, rfl, rfl, by decide +kernel, rfl, by decide +kernel, by decide +kernel⟩
abbrev s_meant : Stmt := topS 16
abbrev n_meant : List Str := ["frame", "command", "word", "states", "other", "one", "inner", "state", "guard", "own"]
theorem sc_meant : FnScope n_meant ["frame", "command"] (defScope s_meant) := ⟨rfl, rfl, rfl, by decide +kernel, rfl, by decide +kernel, by decide +kernel⟩
abbrev s_values_set : Stmt := topS 17
abbrev n_values_set : List Str := ["frame", "pairs", "state", "name", "expr"]
theorem sc_values_set : FnScope n_values_set ["frame", "pairs", "state"] (defScope s_values_set) := ⟨rfl, rfl, rfl, by decide +kernel, rfl, by decide +kernel, by decide +kernel⟩
abbrev s_set_end : Stmt := topS 18
abbrev n_set_end : List Str := ["frame", "pairs", "state", "end"]
theorem sc_set_end : FnScope n_set_end ["frame", "pairs", "state"] (defScope s_set_end) := ⟨rfl, rfl, rfl, by decide +kernel, rfl, by decide +kernel, by decide +kernel⟩
abbrev s_is_kept : Stmt := topS 19
abbrev n_is_kept : List Str := ["frame", "names", "one", "other", "k", "own"]
theorem sc_is_kept : FnScope n_is_kept ["frame", "names", "one", "other"] (defScope s_is_kept) := ⟨rfl, rfl, rfl, by decide +kernel, rfl, by decide +kernel, by decide +kernel⟩
abbrev s_spec_ends : Stmt := topS 20
abbrev n_spec_ends : List Str := ["frame", "command", "state", "states", "_", "names", "pre", "post", "able", "end"]
theorem sc_spec_ends : FnScope n_spec_ends ["frame", "command", "state", "states"] (defScope s_spec_ends) := ⟨rfl, rfl, rfl, by decide +kernel, rfl, by decide +kernel, by decide +kernel⟩
abbrev s_both_ends : Stmt := topS 21
abbrev n_both_ends : List Str := ["rows", "row", "end"]
theorem sc_both_ends : FnScope n_both_ends ["rows"] (defScope s_both_ends) := ⟨rfl, rfl, rfl, by decide +kernel, rfl, by decide +kernel, by decide +kernel⟩
abbrev s_ends_by : Stmt := topS 22
abbrev n_ends_by : List Str := ["ends", "other", "end"]
theorem sc_ends_by : FnScope n_ends_by ["ends", "other"] (defScope s_ends_by) := ⟨rfl, rfl, rfl, by decide +kernel, rfl, by decide +kernel, by decide +kernel⟩
abbrev s_if_meant : Stmt := topS 23
abbrev n_if_meant : List Str := ["frame", "inner", "found", "state", "rows", "guard", "own"]
theorem sc_if_meant : FnScope n_if_meant ["frame", "inner"] (defScope s_if_meant) := ⟨rfl, rfl, rfl, by decide +kernel, rfl, by decide +kernel, by decide +kernel⟩
abbrev s_do_meant : Stmt := topS 24
abbrev n_do_meant : List Str := ["frame", "inner", "found", "left", "state", "rows", "able", "guard", "own", "end"]
theorem sc_do_meant : FnScope n_do_meant ["frame", "inner"] (defScope s_do_meant) := ⟨rfl, rfl, rfl, by decide +kernel, rfl, by decide +kernel, by decide +kernel⟩
abbrev s_local_meant : Stmt := topS 25
abbrev n_local_meant : List Str := ["frame", "command", "_", "name", "low", "high", "body", "inner", "told", "place", "found", "state", "rows", "ends", "value", "own"]
theorem sc_local_meant : FnScope n_local_meant ["frame", "command"] (defScope s_local_meant) := ⟨rfl, rfl, rfl, by decide +kernel, rfl, by decide +kernel, by decide +kernel⟩
abbrev s_ahead_of : Stmt := topS 27
abbrev n_ahead_of : List Str := ["frame", "command", "lot", "told", "state"]
theorem sc_ahead_of : FnScope n_ahead_of ["frame", "command", "lot"] (defScope s_ahead_of) := ⟨rfl, rfl, rfl, by decide +kernel, rfl, by decide +kernel, by decide +kernel⟩
abbrev s_is_in : Stmt := topS 28
abbrev n_is_in : List Str := ["ends", "lot", "end"]
theorem sc_is_in : FnScope n_is_in ["ends", "lot"] (defScope s_is_in) := ⟨rfl, rfl, rfl, by decide +kernel, rfl, by decide +kernel, by decide +kernel⟩
abbrev s_may_ahead : Stmt := topS 29
abbrev n_may_ahead : List Str := ["frame", "command", "lot", "told", "able", "state", "end"]
theorem sc_may_ahead : FnScope n_may_ahead ["frame", "command", "lot"] (defScope s_may_ahead) := ⟨rfl, rfl, rfl, by decide +kernel, rfl, by decide +kernel, by decide +kernel⟩
abbrev s_ends_from : Stmt := topS 30
abbrev n_ends_from : List Str := ["frame", "command", "lot", "told", "state"]
theorem sc_ends_from : FnScope n_ends_from ["frame", "command", "lot"] (defScope s_ends_from) := ⟨rfl, rfl, rfl, by decide +kernel, rfl, by decide +kernel, by decide +kernel⟩
abbrev s_least_ahead : Stmt := topS 31
abbrev n_least_ahead : List Str := ["frame", "command"]
theorem sc_least_ahead : FnScope n_least_ahead ["frame", "command"] (defScope s_least_ahead) := ⟨rfl, rfl, rfl, by decide +kernel, rfl, by decide +kernel, by decide +kernel⟩
abbrev s__law_draws : Stmt := topS 33
abbrev n__law_draws : List Str := ["script", "many", "draws", "mixed", "k", "cell", "rest", "turn"]
theorem sc__law_draws : FnScope n__law_draws ["script", "many"] (defScope s__law_draws) := ⟨rfl, rfl, rfl, by decide +kernel, rfl, by decide +kernel, by decide +kernel⟩
abbrev s__law_next : Stmt := topS 34
abbrev n__law_next : List Str := ["w", "many"]
theorem sc__law_next : FnScope n__law_next ["w", "many"] (defScope s__law_next) := ⟨rfl, rfl, rfl, by decide +kernel, rfl, by decide +kernel, by decide +kernel⟩
abbrev s__law_pick : Stmt := topS 35
abbrev n__law_pick : List Str := ["w", "rows"]
theorem sc__law_pick : FnScope n__law_pick ["w", "rows"] (defScope s__law_pick) := ⟨rfl, rfl, rfl, by decide +kernel, rfl, by decide +kernel, by decide +kernel⟩
abbrev s__law_says : Stmt := topS 36
abbrev n__law_says : List Str := ["seen", "due"]
theorem sc__law_says : FnScope n__law_says ["seen", "due"] (defScope s__law_says) := ⟨rfl, rfl, rfl, by decide +kernel, rfl, by decide +kernel, by decide +kernel⟩
abbrev s__law_same : Stmt := topS 37
abbrev n__law_same : List Str := ["seen", "due", "waiting", "one", "other", "key", "k"]
theorem sc__law_same : FnScope n__law_same ["seen", "due"] (defScope s__law_same) := ⟨rfl, rfl, rfl, by decide +kernel, rfl, by decide +kernel, by decide +kernel⟩
abbrev s__law_frame : Stmt := topS 38
abbrev n__law_frame : List Str := ["w", "low", "rows"]
theorem sc__law_frame : FnScope n__law_frame ["w"] (defScope s__law_frame) := ⟨rfl, rfl, rfl, by decide +kernel, rfl, by decide +kernel, by decide +kernel⟩
abbrev s__law_states : Stmt := topS 39
abbrev n__law_states : List Str := ["frame", "found", "name", "low", "high", "longer", "state", "value"]
theorem sc__law_states : FnScope n__law_states ["frame"] (defScope s__law_states) := ⟨rfl, rfl, rfl, by decide +kernel, rfl, by decide +kernel, by decide +kernel⟩
abbrev s__law_expr : Stmt := topS 40
abbrev n__law_expr : List Str := ["w", "frame", "deep", "old", "kind", "names", "sign", "own"]
theorem sc__law_expr : FnScope n__law_expr ["w", "frame", "deep", "old"] (defScope s__law_expr) := ⟨rfl, rfl, rfl, by decide +kernel, rfl, by decide +kernel, by decide +kernel⟩
abbrev s__law_cond : Stmt := topS 41
abbrev n__law_cond : List Str := ["w", "frame", "deep", "old", "kind"]
theorem sc__law_cond : FnScope n__law_cond ["w", "frame", "deep", "old"] (defScope s__law_cond) := ⟨rfl, rfl, rfl, by decide +kernel, rfl, by decide +kernel, by decide +kernel⟩
abbrev s__law_some : Stmt := topS 42
abbrev n__law_some : List Str := ["w", "frame", "names", "found", "own", "name"]
theorem sc__law_some : FnScope n__law_some ["w", "frame"] (defScope s__law_some) := ⟨rfl, rfl, rfl, by decide +kernel, rfl, by decide +kernel, by decide +kernel⟩
abbrev s__law_pairs : Stmt := topS 43
abbrev n__law_pairs : List Str := ["w", "frame", "name"]
theorem sc__law_pairs : FnScope n__law_pairs ["w", "frame"] (defScope s__law_pairs) := ⟨rfl, rfl, rfl, by decide +kernel, rfl, by decide +kernel, by decide +kernel⟩
abbrev s__law_spec : Stmt := topS 44
abbrev n__law_spec : List Str := ["w", "frame", "pre"]
theorem sc__law_spec : FnScope n__law_spec ["w", "frame"] (defScope s__law_spec) := ⟨rfl, rfl, rfl, by decide +kernel, rfl, by decide +kernel, by decide +kernel⟩
abbrev s__law_count : Stmt := topS 45
abbrev n__law_count : List Str := ["w", "frame", "name", "low", "high"]
theorem sc__law_count : FnScope n__law_count ["w", "frame"] (defScope s__law_count) := ⟨rfl, rfl, rfl, by decide +kernel, rfl, by decide +kernel, by decide +kernel⟩
abbrev s__law_command : Stmt := topS 46
abbrev n__law_command : List Str := ["w", "frame", "deep", "kind", "guard", "other", "name", "inner", "own"]
theorem sc__law_command : FnScope n__law_command ["w", "frame", "deep"] (defScope s__law_command) := ⟨rfl, rfl, rfl, by decide +kernel, rfl, by decide +kernel, by decide +kernel⟩
abbrev s__law_worth : Stmt := topS 47
abbrev n__law_worth : List Str := ["frame", "state", "old", "expr", "k", "a", "b", "own"]
theorem sc__law_worth : FnScope n__law_worth ["frame", "state", "old", "expr"] (defScope s__law_worth) := ⟨rfl, rfl, rfl, by decide +kernel, rfl, by decide +kernel, by decide +kernel⟩
abbrev s__law_holds : Stmt := topS 48
abbrev n__law_holds : List Str := ["frame", "state", "old", "cond", "both", "a", "b"]
theorem sc__law_holds : FnScope n__law_holds ["frame", "state", "old", "cond"] (defScope s__law_holds) := ⟨rfl, rfl, rfl, by decide +kernel, rfl, by decide +kernel, by decide +kernel⟩
abbrev s__law_lot : Stmt := topS 49
abbrev n__law_lot : List Str := ["w", "states", "state"]
theorem sc__law_lot : FnScope n__law_lot ["w", "states"] (defScope s__law_lot) := ⟨rfl, rfl, rfl, by decide +kernel, rfl, by decide +kernel, by decide +kernel⟩
abbrev s__law_both : Stmt := topS 50
abbrev n__law_both : List Str := ["one", "other", "state"]
theorem sc__law_both : FnScope n__law_both ["one", "other"] (defScope s__law_both) := ⟨rfl, rfl, rfl, by decide +kernel, rfl, by decide +kernel, by decide +kernel⟩
abbrev s_law : Stmt := topS 51
abbrev n_law : List Str := ["script", "w", "turn", "frame", "states", "a", "b", "lot", "other", "told", "first", "second", "due", "rest", "ends", "more", "whole", "is_led", "state", "end"]
theorem sc_law : FnScope n_law ["script"] (defScope s_law) := ⟨rfl, rfl, rfl, by decide +kernel, rfl, by decide +kernel, by decide +kernel⟩
end J
end

section
set_option Elab.async false
set_option maxHeartbeats 0
set_option linter.all false
set_option maxRecDepth 100000
/-! names, places, states of frames -/
namespace J
open PySem PySem.Spec PyProof.Rows L2
local macro_rules | `(tactic| walk_at "vis") => `(tactic| first | exact Or.inl rfl | exact Or.inr (Or.inl rfl) | exact Or.inr (Or.inr rfl))
local macro_rules | `(tactic| walk_at "loc") => `(tactic| first | exact Or.inl rfl | exact Or.inr rfl)
local macro_rules | `(tactic| walk_at "var") => `(tactic| first
  | exact re_v 0 rfl rfl (by walk_at "vis") | exact re_v 1 rfl rfl (by walk_at "vis") | exact re_v 2 rfl rfl (by walk_at "vis") | exact re_v 3 rfl rfl (by walk_at "vis")
  | exact re_v 4 rfl rfl (by walk_at "vis") | exact re_v 5 rfl rfl (by walk_at "vis") | exact re_v 6 rfl rfl (by walk_at "vis") | exact re_v 7 rfl rfl (by walk_at "vis")
  | exact re_v 8 rfl rfl (by walk_at "vis") | exact re_v 9 rfl rfl (by walk_at "vis") | exact re_v 10 rfl rfl (by walk_at "vis") | exact re_v 11 rfl rfl (by walk_at "vis")
  | exact re_v 12 rfl rfl (by walk_at "vis") | exact re_v 13 rfl rfl (by walk_at "vis") | exact re_v 14 rfl rfl (by walk_at "vis") | exact re_v 15 rfl rfl (by walk_at "vis")
  | exact re_v 16 rfl rfl (by walk_at "vis") | exact re_v 17 rfl rfl (by walk_at "vis") | exact re_v 18 rfl rfl (by walk_at "vis") | exact re_v 19 rfl rfl (by walk_at "vis"))
local macro_rules | `(tactic| walk_at "ix") => `(tactic| first | exact ix_tupD rfl | exact ix_lstD rfl | exact ix_wtD rfl)
local macro_rules | `(tactic| walk_at "len") => `(tactic| first | exact Nat.le_of_ble_eq_true rfl | assumption | (simp; done) | (simp; omega))
local macro_rules | `(tactic| walk_at "ra") => `(tactic| first | ((with_reducible show RA _ [] _ _ _ _); exact ra_nil) | ((with_reducible show RA _ (_ :: _) _ _ _ _); exact ra_cons (by walk_at "ev") (by walk_at "ra")))
local macro_rules | `(tactic| walk_at "bin") => `(tactic| first | exact bin_addI | exact bin_subI | exact bin_addT (by walk_at "len") | exact bin_addL (by walk_at "len"))
local macro_rules | `(tactic| walk_at "ev") => `(tactic| first
  | ((with_reducible show RE _ (Expr.Name _ _) _ _ _ _); walk_at "var")
  | ((with_reducible show RE _ (Expr.Constant _ _ _) _ _ _ _); first | exact re_int | exact re_str | exact re_bl | exact re_non)
  | ((with_reducible show RE _ (Expr.Tuple _ _ _) _ _ _ _); exact re_tup (by walk_at "ra") (by walk_at "len"))
  | ((with_reducible show RE _ (Expr.List _ _) _ _ _ _); exact re_lst (by walk_at "ra") (by walk_at "len"))
  | ((with_reducible show RE _ (Expr.Subscript _ _ _) _ _ _ _); exact re_sub (by walk_at "ev") (by walk_at "ev") (by walk_at "ix"))
  | ((with_reducible show RE _ (Expr.BinOp _ _ _ _) _ _ _ _); exact re_bin (by walk_at "ev") (by walk_at "ev") (by walk_at "bin"))
  | assumption)
def namesF (f : Fr) : List Str := f.map (·.1)
/-- the numbers lo .. hi -/
def numsF (lo hi : Int) : List Int := (List.range (hi + 1 - lo).toNat).map fun (i : Nat) => lo + (i : Int)
def statesFrom (found : List (List Int)) : Fr → List (List Int)
  | [] => found
  | r :: f => statesFrom (found.flatMap fun s => (numsF r.2.1 r.2.2).map fun v => s ++ [v]) f
def statesF (f : Fr) : List (List Int) := statesFrom [[]] f
/-- a frame of small numbers, in order, of few names -/
structure FrOk (f : Fr) : Prop where
  few : f.length ≤ 8
  nums : ∀ r ∈ f, -100 ≤ r.2.1 ∧ r.2.1 ≤ 100 ∧ -100 ≤ r.2.2 ∧ r.2.2 ≤ 100
  one : (namesF f).Nodup
  named : ∀ x ∈ namesF f, NmOk x
  size : ∀ n, (statesFrom [[]] (f.take n)).length ≤ 60
section
variable {P : Program} {w : World} {K : PySem.W.Frag} {mg : Str → Option Value} {base : Heap} {f : Addr} {fd : FuncData}
theorem has_is_integer (F : Fun K "is_integer" "is_integer" s_is_integer f fd) (hm : mg "is_integer" = some (.ref f)) (B : Bi mg) :
    Has P w K mg base "is_integer" 1 1 (fun ds o d o' => ∃ i : Int, ds = [.int i] ∧ d = .bl true ∧ o' = o) := by
  refine has_mk F sc_is_integer hm (F.binds fun _ _ _ _ _ _ us hl => match us, hl with | [_], _ => rfl) (by rintro _ _ _ _ ⟨i, rfl, _⟩; rfl) fun cdv A outer s H E ds o d o' hr hR => ?_
  obtain ⟨i, rfl, rfl, rfl⟩ := hR
  refine rb_one (rs_ret ?_)
  refine re_andT (re_blt B.isi (ra_cons (by walk_at "var") (ra_cons (re_ty (n := "int") rfl B.int (by decide +kernel)) ra_nil)) (isi_of (c := "int") rfl (by decide +kernel) (by decide))) (re_one ?_)
  refine re_not (k := false) ?_
  exact (re_blt B.isi (ra_cons (by walk_at "var") (ra_cons (re_ty (n := "bool") rfl B.bool (by decide +kernel)) ra_nil)) (isi_of (c := "int") (k := false) rfl (by decide +kernel) (by decide)))
theorem has_names_of (F : Fun K "names_of" "names_of" s_names_of f fd) (hm : mg "names_of" = some (.ref f)) (B : Bi mg) :
    Has P w K mg base "names_of" 1 1 (fun ds o d o' => ∃ fr : Fr, fr.length ≤ 100 ∧ ds = [frD fr] ∧ d = .ptup ((namesF fr).map .str) ∧ o' = o) := by
  refine has_mk F sc_names_of hm (F.binds fun _ _ _ _ _ _ us hl => match us, hl with | [_], _ => rfl) (by rintro _ _ _ _ ⟨fr, _, rfl, _⟩; rfl) fun cdv A outer s H E ds o d o' hr hR => ?_
  obtain ⟨fr, hlen, rfl, rfl, rfl⟩ := hR
  refine rb_one (rs_ret (re_tyc B.tuple (ra_cons (re_l (d := .lst ((namesF fr).map .str)) ?_) ra_nil) ty_tupleP))
  unfold namesF
  rw [List.map_map]
  refine rl_map [("own", 1)] fr rowD _ _ _ rfl sc_names_of.nd (ri_tup (by walk_at "var")) (blkOk_by (N := n_names_of) (sc := defScope s_names_of) (by decide +kernel)) (fun s H C cl fp r hr => ⟨rg_name 1 sc_names_of.nd rfl (.inl rfl), ?_⟩) (by decide) (Nat.le_trans hlen (by decide))
  exact re_sub (by walk_at "var") re_int (ix_tupD rfl)
/-- the place of the name x -/
def placeF (f : Fr) (x : Str) : Nat := (namesF f).findIdx (· == x)
theorem placeF_at {f : Fr} {x : Str} (h : x ∈ namesF f) : (namesF f)[placeF f x]? = some x ∧ (∀ m, m < placeF f x → (namesF f)[m]? ≠ some x) ∧ placeF f x < f.length := by
  have hl : placeF f x < (namesF f).length := List.findIdx_lt_length_of_exists ⟨x, h, by simp⟩
  have e := List.findIdx_getElem (w := hl)
  refine ⟨?_, fun m hm q => ?_, by unfold namesF at hl; rw [List.length_map] at hl; exact hl⟩
  · rw [List.getElem?_eq_getElem hl]
    exact congrArg some (beq_iff_eq.mp e)
  · obtain ⟨hm', e'⟩ := List.getElem?_eq_some_iff.mp q
    have z := List.not_of_lt_findIdx hm
    rw [e'] at z
    simp at z
theorem has_place_of (F : Fun K "place_of" "place_of" s_place_of f fd) (hm : mg "place_of" = some (.ref f)) (h1 : Has P w K mg base "names_of" 1 1 (fun ds o d o' => ∃ fr : Fr, fr.length ≤ 100 ∧ ds = [frD fr] ∧ d = .ptup ((namesF fr).map .str) ∧ o' = o)) :
    Has P w K mg base "place_of" 2 2 (fun ds o d o' => ∃ (fr : Fr) (x : Str), fr.length ≤ 100 ∧ (∀ y ∈ namesF fr, NmOk y) ∧ x ∈ namesF fr ∧ ds = [frD fr, .str x] ∧ d = .int (placeF fr x : Int) ∧ o' = o) := by
  refine has_mk F sc_place_of hm (F.binds fun _ _ _ _ _ _ us hl => match us, hl with | [_, _], _ => rfl) (by rintro _ _ _ _ ⟨fr, x, _, _, _, rfl, _⟩; rfl) fun cdv A outer s H E ds o d o' hr hR => ?_
  obtain ⟨fr, x, hlen, hok, hx, rfl, rfl, rfl⟩ := hR
  obtain ⟨e1, e2, _⟩ := placeF_at hx
  refine rb_cons (rs_set 2 sc_place_of.nd rfl (by walk_at "vis") (re_call h1 hr (by walk_at "ra") ⟨fr, hlen, rfl, rfl, rfl⟩ rfl)) ?_
  refine rb_one (rs_ret (re_ifT (rt_cm (by walk_at "var") (by walk_at "var") ?_ (by rfl)) (re_index (by walk_at "var") (by walk_at "ra") e1 e2)))
  exact cmp_inStr (J.Room.u65 hr) .ptup (hok x hx) hok (decide_eq_true hx)
end
end J
end

section
set_option Elab.async false
set_option maxHeartbeats 0
set_option linter.all false
set_option maxRecDepth 100000
/-! states_of -/
namespace J
open PySem PySem.Spec PyProof.Rows L2
local macro_rules | `(tactic| walk_at "vis") => `(tactic| first | exact Or.inl rfl | exact Or.inr (Or.inl rfl) | exact Or.inr (Or.inr rfl))
local macro_rules | `(tactic| walk_at "loc") => `(tactic| first | exact Or.inl rfl | exact Or.inr rfl)
local macro_rules | `(tactic| walk_at "var") => `(tactic| first
  | exact re_v 0 rfl rfl (by walk_at "vis") | exact re_v 1 rfl rfl (by walk_at "vis") | exact re_v 2 rfl rfl (by walk_at "vis") | exact re_v 3 rfl rfl (by walk_at "vis")
  | exact re_v 4 rfl rfl (by walk_at "vis") | exact re_v 5 rfl rfl (by walk_at "vis") | exact re_v 6 rfl rfl (by walk_at "vis") | exact re_v 7 rfl rfl (by walk_at "vis")
  | exact re_v 8 rfl rfl (by walk_at "vis") | exact re_v 9 rfl rfl (by walk_at "vis") | exact re_v 10 rfl rfl (by walk_at "vis") | exact re_v 11 rfl rfl (by walk_at "vis")
  | exact re_v 12 rfl rfl (by walk_at "vis") | exact re_v 13 rfl rfl (by walk_at "vis") | exact re_v 14 rfl rfl (by walk_at "vis") | exact re_v 15 rfl rfl (by walk_at "vis")
  | exact re_v 16 rfl rfl (by walk_at "vis") | exact re_v 17 rfl rfl (by walk_at "vis") | exact re_v 18 rfl rfl (by walk_at "vis") | exact re_v 19 rfl rfl (by walk_at "vis"))
local macro_rules | `(tactic| walk_at "ix") => `(tactic| first | exact ix_tupD rfl | exact ix_lstD rfl | exact ix_wtD rfl)
local macro_rules | `(tactic| walk_at "len") => `(tactic| first | exact Nat.le_of_ble_eq_true rfl | assumption | (simp; done) | (simp; omega))
local macro_rules | `(tactic| walk_at "ra") => `(tactic| first | ((with_reducible show RA _ [] _ _ _ _); exact ra_nil) | ((with_reducible show RA _ (_ :: _) _ _ _ _); exact ra_cons (by walk_at "ev") (by walk_at "ra")))
local macro_rules | `(tactic| walk_at "bin") => `(tactic| first | exact bin_addI | exact bin_subI | exact bin_addT (by walk_at "len") | exact bin_addL (by walk_at "len"))
local macro_rules | `(tactic| walk_at "ev") => `(tactic| first
  | ((with_reducible show RE _ (Expr.Name _ _) _ _ _ _); walk_at "var")
  | ((with_reducible show RE _ (Expr.Constant _ _ _) _ _ _ _); first | exact re_int | exact re_str | exact re_bl | exact re_non)
  | ((with_reducible show RE _ (Expr.Tuple _ _ _) _ _ _ _); exact re_tup (by walk_at "ra") (by walk_at "len"))
  | ((with_reducible show RE _ (Expr.List _ _) _ _ _ _); exact re_lst (by walk_at "ra") (by walk_at "len"))
  | ((with_reducible show RE _ (Expr.Subscript _ _ _) _ _ _ _); exact re_sub (by walk_at "ev") (by walk_at "ev") (by walk_at "ix"))
  | ((with_reducible show RE _ (Expr.BinOp _ _ _ _) _ _ _ _); exact re_bin (by walk_at "ev") (by walk_at "ev") (by walk_at "bin"))
  | assumption)
section
variable {P : Program} {w : World} {K : PySem.W.Frag} {mg : Str → Option Value} {base : Heap} {f : Addr} {fd : FuncData}
theorem statesFrom_snoc (r : Row) : ∀ (f : Fr) (found : List (List Int)), statesFrom found (f ++ [r]) = (statesFrom found f).flatMap fun s => (numsF r.2.1 r.2.2).map fun v => s ++ [v]
  | [], _ => rfl
  | q :: f, found => statesFrom_snoc r f _
theorem numsF_len (lo hi : Int) : (numsF lo hi).length = (hi + 1 - lo).toNat := by unfold numsF; rw [List.length_map, List.length_range]
theorem rangeD_nums (lo hi : Int) : rangeD lo (hi + 1 - lo).toNat = (numsF lo hi).map D.int := by
  unfold rangeD numsF
  rw [List.map_map]
  rfl
theorem sum_same {α : Type} (n : Nat) : ∀ L : List α, (L.map fun _ => n).sum = L.length * n
  | [] => by simp
  | a :: L => by
    rw [List.map_cons, List.sum_cons, sum_same n L, List.length_cons, Nat.add_mul, Nat.one_mul, Nat.add_comm]
theorem statesFrom_len {s : List Int} : ∀ {f : Fr} {found : List (List Int)}, s ∈ statesFrom found f → ∃ t ∈ found, s.length = t.length + f.length
  | [], found, h => ⟨s, h, rfl⟩
  | r :: f, found, h => by
    obtain ⟨t, ht, e⟩ := statesFrom_len (f := f) h
    obtain ⟨u, hu, ht⟩ := List.mem_flatMap.mp ht
    obtain ⟨v, hv, rfl⟩ := List.mem_map.mp ht
    exact ⟨u, hu, by rw [e, List.length_append, List.length_singleton, List.length_cons]; omega⟩
theorem statesF_len {s : List Int} {f : Fr} (h : s ∈ statesF f) : s.length = f.length := by
  obtain ⟨t, ht, e⟩ := statesFrom_len h
  rw [List.mem_singleton.mp ht] at e
  simpa using e
theorem has_states_of (F : Fun K "states_of" "states_of" s_states_of f fd) (hm : mg "states_of" = some (.ref f)) (B : Bi mg) :
    Has P w K mg base "states_of" 1 1 (fun ds o d o' => ∃ fr : Fr, FrOk fr ∧ ds = [frD fr] ∧ d = .lst ((statesF fr).map stD) ∧ o' = o) := by
  refine has_mk F sc_states_of hm (F.binds fun _ _ _ _ _ _ us hl => match us, hl with | [_], _ => rfl) (by rintro _ _ _ _ ⟨fr, _, rfl, _⟩; rfl) fun cdv A outer s H E ds o d o' hr hR => ?_
  obtain ⟨fr, hok, rfl, rfl, rfl⟩ := hR
  refine rb_cons (rs_set 1 sc_states_of.nd rfl (by walk_at "vis") (re_lst (ra_cons (re_tup ra_nil (by decide)) ra_nil) (by decide))) ?_
  have hloop : statesF fr = statesFrom [[]] (fr.take fr.length) := by rw [List.take_length]; rfl
  rw [hloop]
  refine rb_cons (rs_for fr rowD (fun i => [some (frD fr), some (.lst ((statesFrom [[]] (fr.take i)).map stD)), none, none, none, none, none]) (fun _ => o')
    (fun i r => [some (frD fr), some (.lst ((statesFrom [[]] (fr.take i)).map stD)), some (.str r.1), some (.int r.2.1), some (.int r.2.2), none, none]) [2, 3, 4]
    (fun i r => .nx [some (frD fr), some (.lst ((statesFrom [[]] (fr.take (i + 1))).map stD)), some (.str r.1), some (.int r.2.1), some (.int r.2.2), none, none] o') rfl ?_ (ri_tup (by walk_at "var")) rfl (fun i r hi => ?_) (fun i r hi => ?_)
    (fun i r hi => ⟨_, .inl rfl, .cons _ (.cons _ (.drop _ (.drop _ (.drop _ (.cons _ (.cons _ .nil))))))⟩)) (rb_one (rs_ret (by walk_at "var")))
  · exact PassesOwn.never
  · exact rg_tup rfl (rgs_cons (rg_name 2 sc_states_of.nd rfl (by walk_at "loc")) (rgs_cons (rg_name 3 sc_states_of.nd rfl (by walk_at "loc")) (rgs_cons (rg_name 4 sc_states_of.nd rfl (by walk_at "loc")) rgs_nil)))
  · have hd : statesFrom [[]] (fr.take (i + 1)) = (statesFrom [[]] (fr.take i)).flatMap fun s => (numsF r.2.1 r.2.2).map fun v => s ++ [v] := by
      rw [List.take_succ, hi]
      exact statesFrom_snoc r _ _
    rw [hd]
    refine rb_one (rs_setL 1 sc_states_of.nd rfl rfl ?_ rfl)
    have hrow := hok.nums r (List.mem_of_getElem? hi)
    refine rl_eq (rl_lc2 [("state", 5), ("value", 6)] [6] (statesFrom [[]] (fr.take i)) stD (fun st => [some (frD fr), some (.lst ((statesFrom [[]] (fr.take i)).map stD)), some (.str r.1), some (.int r.2.1), some (.int r.2.2), some (stD st), none]) [5]
      (fun _ => numsF r.2.1 r.2.2) (fun _ v => D.int v) (fun st v => [some (frD fr), some (.lst ((statesFrom [[]] (fr.take i)).map stD)), some (.str r.1), some (.int r.2.1), some (.int r.2.2), some (stD st), some (.int v)]) [6] (fun _ _ => true) (fun st v => stD (st ++ [v]))
      rfl sc_states_of.nd (ri_list (by walk_at "var")) (blkOk_by (N := n_states_of) (sc := defScope s_states_of) (by decide +kernel)) (by decide) (fun s1 H1 C cl fp st hst => ⟨rg_name 5 sc_states_of.nd rfl (by walk_at "loc"), ?_, fun v hv => ⟨rg_name 6 sc_states_of.nd rfl (by walk_at "loc"), rts_nil, fun _ => ?_⟩⟩) (by decide) (by decide) ?_) ?_
    · exact ri_eq (ri_range2 rfl B.range (ra_cons (by walk_at "var") (ra_cons (re_bin (by walk_at "var") re_int bin_addI) ra_nil)) (by omega)) (rangeD_nums _ _)
    · have few : (st.map D.int).length + [D.int v].length ≤ 100000 := by
        obtain ⟨t, ht, e⟩ := statesFrom_len hst
        rw [List.mem_singleton.mp ht] at e
        have h8 := hok.few
        have h9 : (fr.take i).length ≤ fr.length := by rw [List.length_take]; exact Nat.min_le_right _ _
        rw [List.length_map, e]
        show 0 + (fr.take i).length + 1 ≤ 100000
        omega
      exact re_eq (re_bin (by walk_at "var") (re_tup (ra_cons (by walk_at "var") ra_nil) (by walk_at "len")) (bin_addT few)) (by unfold stD; rw [List.map_append]; rfl)
    · have z := hok.size (i + 1)
      rw [hd, List.length_flatMap] at z
      simp only [List.length_map] at z
      exact Nat.le_trans z (by decide)
    · congr 1
      rw [List.map_flatMap]
      congr 1
      funext st
      rw [List.filter_eq_self.mpr (fun _ _ => rfl), List.map_map]
      rfl
end
end J
end

section
set_option Elab.async false
set_option maxHeartbeats 0
set_option linter.all false
set_option maxRecDepth 100000
/-! is_state, with_name, with_values -/
namespace J
open PySem PySem.Spec PyProof.Rows L2
local macro_rules | `(tactic| walk_at "vis") => `(tactic| first | exact Or.inl rfl | exact Or.inr (Or.inl rfl) | exact Or.inr (Or.inr rfl))
local macro_rules | `(tactic| walk_at "loc") => `(tactic| first | exact Or.inl rfl | exact Or.inr rfl)
local macro_rules | `(tactic| walk_at "var") => `(tactic| first
  | exact re_v 0 rfl rfl (by walk_at "vis") | exact re_v 1 rfl rfl (by walk_at "vis") | exact re_v 2 rfl rfl (by walk_at "vis") | exact re_v 3 rfl rfl (by walk_at "vis")
  | exact re_v 4 rfl rfl (by walk_at "vis") | exact re_v 5 rfl rfl (by walk_at "vis") | exact re_v 6 rfl rfl (by walk_at "vis") | exact re_v 7 rfl rfl (by walk_at "vis")
  | exact re_v 8 rfl rfl (by walk_at "vis") | exact re_v 9 rfl rfl (by walk_at "vis") | exact re_v 10 rfl rfl (by walk_at "vis") | exact re_v 11 rfl rfl (by walk_at "vis")
  | exact re_v 12 rfl rfl (by walk_at "vis") | exact re_v 13 rfl rfl (by walk_at "vis") | exact re_v 14 rfl rfl (by walk_at "vis") | exact re_v 15 rfl rfl (by walk_at "vis")
  | exact re_v 16 rfl rfl (by walk_at "vis") | exact re_v 17 rfl rfl (by walk_at "vis") | exact re_v 18 rfl rfl (by walk_at "vis") | exact re_v 19 rfl rfl (by walk_at "vis"))
local macro_rules | `(tactic| walk_at "ix") => `(tactic| first | exact ix_tupD rfl | exact ix_lstD rfl | exact ix_wtD rfl)
local macro_rules | `(tactic| walk_at "len") => `(tactic| first | exact Nat.le_of_ble_eq_true rfl | assumption | (simp; done) | (simp; omega))
local macro_rules | `(tactic| walk_at "ra") => `(tactic| first | ((with_reducible show RA _ [] _ _ _ _); exact ra_nil) | ((with_reducible show RA _ (_ :: _) _ _ _ _); exact ra_cons (by walk_at "ev") (by walk_at "ra")))
local macro_rules | `(tactic| walk_at "bin") => `(tactic| first | exact bin_addI | exact bin_subI | exact bin_addT (by walk_at "len") | exact bin_addL (by walk_at "len"))
local macro_rules | `(tactic| walk_at "ev") => `(tactic| first
  | ((with_reducible show RE _ (Expr.Name _ _) _ _ _ _); walk_at "var")
  | ((with_reducible show RE _ (Expr.Constant _ _ _) _ _ _ _); first | exact re_int | exact re_str | exact re_bl | exact re_non)
  | ((with_reducible show RE _ (Expr.Tuple _ _ _) _ _ _ _); exact re_tup (by walk_at "ra") (by walk_at "len"))
  | ((with_reducible show RE _ (Expr.List _ _) _ _ _ _); exact re_lst (by walk_at "ra") (by walk_at "len"))
  | ((with_reducible show RE _ (Expr.Subscript _ _ _) _ _ _ _); exact re_sub (by walk_at "ev") (by walk_at "ev") (by walk_at "ix"))
  | ((with_reducible show RE _ (Expr.BinOp _ _ _ _) _ _ _ _); exact re_bin (by walk_at "ev") (by walk_at "ev") (by walk_at "bin"))
  | assumption)
section
variable {P : Program} {w : World} {K : PySem.W.Frag} {mg : Str → Option Value} {base : Heap} {f : Addr} {fd : FuncData}
abbrev RNames : List D → Own → D → Own → Prop := fun ds o d o' => ∃ fr : Fr, fr.length ≤ 100 ∧ ds = [frD fr] ∧ d = .ptup ((namesF fr).map .str) ∧ o' = o
abbrev RPlace : List D → Own → D → Own → Prop := fun ds o d o' => ∃ (fr : Fr) (x : Str), fr.length ≤ 100 ∧ (∀ y ∈ namesF fr, NmOk y) ∧ x ∈ namesF fr ∧ ds = [frD fr, .str x] ∧ d = .int (placeF fr x : Int) ∧ o' = o
abbrev RInt : List D → Own → D → Own → Prop := fun ds o d o' => ∃ i : Int, ds = [.int i] ∧ d = .bl true ∧ o' = o
abbrev RStates : List D → Own → D → Own → Prop := fun ds o d o' => ∃ fr : Fr, FrOk fr ∧ ds = [frD fr] ∧ d = .lst ((statesF fr).map stD) ∧ o' = o
/-- the numbers of s lie in the ranges of fr -/
def inF (fr : Fr) (s : List Int) : Bool := (s.zip fr).all fun p => decide (p.2.2.1 ≤ p.1) && decide (p.1 ≤ p.2.2.2)
theorem has_is_state (F : Fun K "is_state" "is_state" s_is_state f fd) (hm : mg "is_state" = some (.ref f)) (B : Bi mg) (h1 : Has P w K mg base "is_integer" 1 1 RInt) :
    Has P w K mg base "is_state" 2 2 (fun ds o d o' => ∃ (fr : Fr) (s : List Int), fr.length ≤ 100 ∧ s.length = fr.length ∧ ds = [frD fr, stD s] ∧ d = .bl (inF fr s) ∧ o' = o) := by
  refine has_mk F sc_is_state hm (F.binds fun _ _ _ _ _ _ us hl => match us, hl with | [_, _], _ => rfl) (by rintro _ _ _ _ ⟨fr, s, _, _, rfl, _⟩; rfl) fun cdv A outer s0 H E ds o d o' hr hR => ?_
  obtain ⟨fr, s, hlen, hl, rfl, rfl, rfl⟩ := hR
  refine rb_cons (rs_ifF (rt_or2 (k := false) (l := false) (rt_not (k := true) (rt_val (re_blt B.isi (ra_cons (by walk_at "var") (ra_cons (re_ty (n := "tuple") rfl B.tuple (by decide +kernel)) ra_nil)) (isi_of (c := "tuple") rfl (by decide +kernel) (by decide)))))
    (rt_eq (rt_cm (re_blt B.len (by walk_at "ra") (blt_len .tup)) (re_blt B.len (by walk_at "ra") (blt_len .tup)) cmp_neI (by rfl)) (by rw [List.length_map, List.length_map, hl, decide_eq_true rfl]; rfl))) rb_nil) ?_
  · refine rb_one (rs_ret (re_eq (re_blt B.all (ra_cons (re_l (d := .lst (((s.zip fr).map fun p => decide (p.2.2.1 ≤ p.1) && decide (p.1 ≤ p.2.2.2)).map .bl)) ?_) ra_nil) (blt_all rfl)) (by unfold inF; rw [List.all_map]; rfl)))
    rw [List.map_map]
    refine rl_map [("own", 2), ("_", 3), ("low", 4), ("high", 5)] (s.zip fr) (fun p => .tup [.int p.1, rowD p.2]) (fun p => [some (frD fr), some (stD s), some (.int p.1), some (.str p.2.1), some (.int p.2.2.1), some (.int p.2.2.2)]) [2, 3, 4, 5] _ rfl sc_is_state.nd ?_ (blkOk_by (N := n_is_state) (sc := defScope s_is_state) (by decide +kernel)) (fun s1 H1 C cl fp p hp => ⟨?_, ?_⟩) (by decide) ?_
    · refine ri_eq (ri_zip rfl B.zip (by walk_at "ra") (by rw [List.length_map, List.length_map, hl])) ?_
      rw [List.zip_map, List.map_map]
      rfl
    · exact rg_tup rfl (rgs_cons (rg_name 2 sc_is_state.nd rfl (by walk_at "loc")) (rgs_cons (rg_tup rfl (rgs_cons (rg_name 3 sc_is_state.nd rfl (by walk_at "loc")) (rgs_cons (rg_name 4 sc_is_state.nd rfl (by walk_at "loc")) (rgs_cons (rg_name 5 sc_is_state.nd rfl (by walk_at "loc")) rgs_nil)))) rgs_nil))
    · refine re_andT (re_call h1 hr (by walk_at "ra") ⟨p.1, rfl, rfl, rfl⟩ rfl) (re_one ?_)
      exact re_ch2 (by walk_at "var") (by walk_at "var") cmp_leI (by walk_at "var") cmp_leI
    · rw [List.length_zip]
      omega
end
end J
end

section
set_option Elab.async false
set_option maxHeartbeats 0
set_option linter.all false
set_option maxRecDepth 100000
/-! with_name, with_values -/
namespace J
open PySem PySem.Spec PyProof.Rows L2
local macro_rules | `(tactic| walk_at "vis") => `(tactic| first | exact Or.inl rfl | exact Or.inr (Or.inl rfl) | exact Or.inr (Or.inr rfl))
local macro_rules | `(tactic| walk_at "loc") => `(tactic| first | exact Or.inl rfl | exact Or.inr rfl)
local macro_rules | `(tactic| walk_at "var") => `(tactic| first
  | exact re_v 0 rfl rfl (by walk_at "vis") | exact re_v 1 rfl rfl (by walk_at "vis") | exact re_v 2 rfl rfl (by walk_at "vis") | exact re_v 3 rfl rfl (by walk_at "vis")
  | exact re_v 4 rfl rfl (by walk_at "vis") | exact re_v 5 rfl rfl (by walk_at "vis") | exact re_v 6 rfl rfl (by walk_at "vis") | exact re_v 7 rfl rfl (by walk_at "vis")
  | exact re_v 8 rfl rfl (by walk_at "vis") | exact re_v 9 rfl rfl (by walk_at "vis") | exact re_v 10 rfl rfl (by walk_at "vis") | exact re_v 11 rfl rfl (by walk_at "vis")
  | exact re_v 12 rfl rfl (by walk_at "vis") | exact re_v 13 rfl rfl (by walk_at "vis") | exact re_v 14 rfl rfl (by walk_at "vis") | exact re_v 15 rfl rfl (by walk_at "vis")
  | exact re_v 16 rfl rfl (by walk_at "vis") | exact re_v 17 rfl rfl (by walk_at "vis") | exact re_v 18 rfl rfl (by walk_at "vis") | exact re_v 19 rfl rfl (by walk_at "vis"))
local macro_rules | `(tactic| walk_at "ix") => `(tactic| first | exact ix_tupD rfl | exact ix_lstD rfl | exact ix_wtD rfl)
local macro_rules | `(tactic| walk_at "len") => `(tactic| first | exact Nat.le_of_ble_eq_true rfl | assumption | (simp; done) | (simp; omega))
local macro_rules | `(tactic| walk_at "ra") => `(tactic| first | ((with_reducible show RA _ [] _ _ _ _); exact ra_nil) | ((with_reducible show RA _ (_ :: _) _ _ _ _); exact ra_cons (by walk_at "ev") (by walk_at "ra")))
local macro_rules | `(tactic| walk_at "bin") => `(tactic| first | exact bin_addI | exact bin_subI | exact bin_addT (by walk_at "len") | exact bin_addL (by walk_at "len"))
local macro_rules | `(tactic| walk_at "ev") => `(tactic| first
  | ((with_reducible show RE _ (Expr.Name _ _) _ _ _ _); walk_at "var")
  | ((with_reducible show RE _ (Expr.Constant _ _ _) _ _ _ _); first | exact re_int | exact re_str | exact re_bl | exact re_non)
  | ((with_reducible show RE _ (Expr.Tuple _ _ _) _ _ _ _); exact re_tup (by walk_at "ra") (by walk_at "len"))
  | ((with_reducible show RE _ (Expr.List _ _) _ _ _ _); exact re_lst (by walk_at "ra") (by walk_at "len"))
  | ((with_reducible show RE _ (Expr.Subscript _ _ _) _ _ _ _); exact re_sub (by walk_at "ev") (by walk_at "ev") (by walk_at "ix"))
  | ((with_reducible show RE _ (Expr.BinOp _ _ _ _) _ _ _ _); exact re_bin (by walk_at "ev") (by walk_at "ev") (by walk_at "bin"))
  | assumption)
/-- a row put into a frame -/
def insF (r : Row) : Fr → Fr
  | [] => [r]
  | q :: f => if lexLt (rowK q) (rowK r) = true then q :: insF r f else r :: q :: f
theorem insF_perm (r : Row) : ∀ f : Fr, (insF r f).Perm (f ++ [r])
  | [] => List.Perm.refl _
  | q :: f => by
    unfold insF
    split
    · exact (insF_perm r f).cons q
    · exact (List.perm_append_singleton r (q :: f)).symm
theorem insF_asc (r : Row) : ∀ {f : Fr}, AscR f → AscR (insF r f)
  | [], _ => List.pairwise_singleton _ _
  | q :: f, h => by
    obtain ⟨hq, hf⟩ := List.pairwise_cons.mp h
    unfold insF
    split
    · rename_i c
      refine List.pairwise_cons.mpr ⟨fun t ht => ?_, insF_asc r hf⟩
      rcases List.mem_append.mp ((insF_perm r f).mem_iff.mp ht) with e | e
      · exact hq t e
      · rw [List.mem_singleton.mp e]
        exact NtL.lex_asym _ _ c
    · rename_i c
      have c' : lexLt (rowK q) (rowK r) = false := by simpa using c
      refine List.pairwise_cons.mpr ⟨fun t ht => ?_, h⟩
      rcases List.mem_cons.mp ht with e | e
      · rw [e]; exact c'
      · exact NtL.lex_tr _ _ _ c' (hq t e)
/-- a dict of names and numbers -/
def valsD (m : List (Str × Int)) : D := .dK (m.map fun p => (Sum.inr p.1, D.int p.2))
def valI (m : List (Str × Int)) (x : Str) : Option Int := (m.find? fun p => decide (p.1 = x)).map (·.2)
theorem valD_vals (x : Str) : ∀ m : List (Str × Int), valD (m.map fun p => ((Sum.inr p.1 : Key), D.int p.2)) (.inr x) = (valI m x).map D.int
  | [] => rfl
  | p :: m => by
    by_cases c : p.1 = x
    · unfold valD valI
      rw [List.map_cons, List.find?_cons_of_pos (by simp [c]), List.find?_cons_of_pos (by simpa using c)]; rfl
    · have ih := valD_vals x m
      unfold valD valI at ih ⊢
      rw [List.map_cons, List.find?_cons_of_neg (by simpa using c), List.find?_cons_of_neg (by simpa using c), ih]
/-- the state s with other values -/
def withF (fr : Fr) (s : List Int) (m : List (Str × Int)) : List Int := (fr.zip s).map fun p => (valI m p.1.1).getD p.2
theorem withF_len {fr : Fr} {s : List Int} {m : List (Str × Int)} (h : s.length = fr.length) : (withF fr s m).length = fr.length := by
  unfold withF
  rw [List.length_map, List.length_zip, h, Nat.min_self]
section
variable {P : Program} {w : World} {K : PySem.W.Frag} {mg : Str → Option Value} {base : Heap} {f : Addr} {fd : FuncData}
abbrev RIsState : List D → Own → D → Own → Prop := fun ds o d o' => ∃ (fr : Fr) (s : List Int), fr.length ≤ 100 ∧ s.length = fr.length ∧ ds = [frD fr, stD s] ∧ d = .bl (inF fr s) ∧ o' = o
abbrev RWithName : List D → Own → D → Own → Prop := fun ds o d o' => ∃ (fr : Fr) (r : Row), fr.length ≤ 100 ∧ AscR fr ∧ ds = [frD fr, .str r.1, .int r.2.1, .int r.2.2] ∧ d = frD (insF r fr) ∧ o' = o
abbrev RWithValues : List D → Own → D → Own → Prop := fun ds o d o' => ∃ (fr : Fr) (s : List Int) (m : List (Str × Int)), fr.length ≤ 100 ∧ s.length = fr.length ∧ ds = [frD fr, stD s, valsD m] ∧ d = stD (withF fr s m) ∧ o' = o
theorem has_with_name (F : Fun K "with_name" "with_name" s_with_name f fd) (hm : mg "with_name" = some (.ref f)) (B : Bi mg) : Has P w K mg base "with_name" 1 4 RWithName := by
  refine has_mk F sc_with_name hm (F.binds fun _ _ _ _ _ _ us hl => match us, hl with | [_, _, _, _], _ => rfl) (by rintro _ _ _ _ ⟨fr, r, _, _, rfl, _⟩; rfl) fun cdv A outer s0 H E ds o d o' hr hR => ?_
  obtain ⟨fr, r, hlen, hasc, rfl, rfl, rfl⟩ := hR
  have few : (fr.map rowD).length + [rowD r].length ≤ 100000 := by
    rw [List.length_map]
    show fr.length + 1 ≤ 100000
    omega
  refine rb_one (rs_ret (re_tyc B.tuple (ra_cons (re_blt B.sorted (ra_cons (re_eq (d := frD (fr ++ [r])) (re_bin (by walk_at "var") (re_tup (ra_cons (re_tup (by walk_at "ra") (by walk_at "len")) ra_nil) (by walk_at "len")) (bin_addT few)) (by unfold frD; rw [List.map_append]; rfl)) ra_nil) (blt_sortedR rfl (insF_perm r fr) (insF_asc r hasc))) ra_nil) ty_tuple))
theorem has_with_values (F : Fun K "with_values" "with_values" s_with_values f fd) (hm : mg "with_values" = some (.ref f)) (B : Bi mg) : Has P w K mg base "with_values" 1 3 RWithValues := by
  refine has_mk F sc_with_values hm (F.binds fun _ _ _ _ _ _ us hl => match us, hl with | [_, _, _], _ => rfl) (by rintro _ _ _ _ ⟨fr, s, m, _, _, rfl, _⟩; rfl) fun cdv A outer s0 H E ds o d o' hr hR => ?_
  obtain ⟨fr, s, m, hlen, hl, rfl, rfl, rfl⟩ := hR
  refine rb_one (rs_ret (re_tyc B.tuple (ra_cons (re_l (d := .lst ((withF fr s m).map .int)) ?_) ra_nil) ty_tuple))
  unfold withF
  rw [List.map_map]
  refine rl_map [("own", 3), ("value", 4)] (fr.zip s) (fun p => .tup [rowD p.1, .int p.2]) (fun p => [some (frD fr), some (stD s), some (valsD m), some (rowD p.1), some (.int p.2)]) [3, 4] _ rfl sc_with_values.nd ?_ (blkOk_by (N := n_with_values) (sc := defScope s_with_values) (by decide +kernel)) (fun s1 H1 C cl fp p hp => ⟨?_, ?_⟩) (by decide) ?_
  · refine ri_eq (ri_zip rfl B.zip (by walk_at "ra") (by rw [List.length_map, List.length_map, hl])) ?_
    rw [List.zip_map, List.map_map]
    rfl
  · exact rg_tup rfl (rgs_cons (rg_name 3 sc_with_values.nd rfl (by walk_at "loc")) (rgs_cons (rg_name 4 sc_with_values.nd rfl (by walk_at "loc")) rgs_nil))
  · refine re_eq (re_get2 (J.Room.u1 hr) (by walk_at "var") (re_sub (by walk_at "var") re_int (ix_tupD rfl)) (by walk_at "var") isd_K (gets_K (k := .inr p.1.1))) ?_
    rw [valD_vals]
    show _ = D.int ((valI m p.1.1).getD p.2)
    cases valI m p.1.1 <;> rfl
  · rw [List.length_zip]
    omega
end
end J
end

section
set_option Elab.async false
set_option maxHeartbeats 0
set_option linter.all false
set_option maxRecDepth 100000
/-! worth, holds -/
namespace J
open PySem PySem.Spec PyProof.Rows L2
local macro_rules | `(tactic| walk_at "vis") => `(tactic| first | exact Or.inl rfl | exact Or.inr (Or.inl rfl) | exact Or.inr (Or.inr rfl))
local macro_rules | `(tactic| walk_at "loc") => `(tactic| first | exact Or.inl rfl | exact Or.inr rfl)
local macro_rules | `(tactic| walk_at "var") => `(tactic| first
  | exact re_v 0 rfl rfl (by walk_at "vis") | exact re_v 1 rfl rfl (by walk_at "vis") | exact re_v 2 rfl rfl (by walk_at "vis") | exact re_v 3 rfl rfl (by walk_at "vis")
  | exact re_v 4 rfl rfl (by walk_at "vis") | exact re_v 5 rfl rfl (by walk_at "vis") | exact re_v 6 rfl rfl (by walk_at "vis") | exact re_v 7 rfl rfl (by walk_at "vis")
  | exact re_v 8 rfl rfl (by walk_at "vis") | exact re_v 9 rfl rfl (by walk_at "vis") | exact re_v 10 rfl rfl (by walk_at "vis") | exact re_v 11 rfl rfl (by walk_at "vis")
  | exact re_v 12 rfl rfl (by walk_at "vis") | exact re_v 13 rfl rfl (by walk_at "vis") | exact re_v 14 rfl rfl (by walk_at "vis") | exact re_v 15 rfl rfl (by walk_at "vis")
  | exact re_v 16 rfl rfl (by walk_at "vis") | exact re_v 17 rfl rfl (by walk_at "vis") | exact re_v 18 rfl rfl (by walk_at "vis") | exact re_v 19 rfl rfl (by walk_at "vis"))
local macro_rules | `(tactic| walk_at "ix") => `(tactic| first | exact ix_tupD rfl | exact ix_lstD rfl | exact ix_wtD rfl)
local macro_rules | `(tactic| walk_at "len") => `(tactic| first | exact Nat.le_of_ble_eq_true rfl | assumption | (simp; done) | (simp; omega))
local macro_rules | `(tactic| walk_at "ra") => `(tactic| first | ((with_reducible show RA _ [] _ _ _ _); exact ra_nil) | ((with_reducible show RA _ (_ :: _) _ _ _ _); exact ra_cons (by walk_at "ev") (by walk_at "ra")))
local macro_rules | `(tactic| walk_at "bin") => `(tactic| first | exact bin_addI | exact bin_subI | exact bin_addT (by walk_at "len") | exact bin_addL (by walk_at "len"))
local macro_rules | `(tactic| walk_at "ev") => `(tactic| first
  | ((with_reducible show RE _ (Expr.Name _ _) _ _ _ _); walk_at "var")
  | ((with_reducible show RE _ (Expr.Constant _ _ _) _ _ _ _); first | exact re_int | exact re_str | exact re_bl | exact re_non)
  | ((with_reducible show RE _ (Expr.Tuple _ _ _) _ _ _ _); exact re_tup (by walk_at "ra") (by walk_at "len"))
  | ((with_reducible show RE _ (Expr.List _ _) _ _ _ _); exact re_lst (by walk_at "ra") (by walk_at "len"))
  | ((with_reducible show RE _ (Expr.Subscript _ _ _) _ _ _ _); exact re_sub (by walk_at "ev") (by walk_at "ev") (by walk_at "ix"))
  | ((with_reducible show RE _ (Expr.BinOp _ _ _ _) _ _ _ _); exact re_bin (by walk_at "ev") (by walk_at "ev") (by walk_at "bin"))
  | assumption)
inductive Op where
  | add | sub | mul | min | max
def Op.str : Op → Str
  | .add => "+"
  | .sub => "-"
  | .mul => "*"
  | .min => "min"
  | .max => "max"
inductive Exp where
  | num (i : Int) | nam (x : Str) | old (x : Str) | two (op : Op) (a b : Exp)
def Exp.D : Exp → D
  | .num i => .tup [.str "number", .int i]
  | .nam x => .tup [.str "name", .str x]
  | .old x => .tup [.str "old", .str x]
  | .two op a b => .tup [.str "two", .str op.str, a.D, b.D]
def Exp.depth : Exp → Nat
  | .two _ a b => Nat.max a.depth b.depth + 1
  | _ => 0
def Op.fn : Op → Int → Int → Int
  | .add, i, j => i + j
  | .sub, i, j => i - j
  | .mul, i, j => i * j
  | .min, i, j => if j < i then j else i
  | .max, i, j => if j > i then j else i
/-- the old state, where there is one -/
def oldD : Option (List Int) → D
  | none => .non
  | some s => stD s
def worthE (fr : Fr) (s : List Int) (old : Option (List Int)) : Exp → Int
  | .num i => i
  | .nam x => s.getD (placeF fr x) 0
  | .old x => (old.getD []).getD (placeF fr x) 0
  | .two op a b => op.fn (worthE fr s old a) (worthE fr s old b)
/-- it has a worth there -/
def EOk (fr : Fr) (s : List Int) (old : Option (List Int)) : Exp → Prop
  | .num _ => True
  | .nam x => x ∈ namesF fr
  | .old x => x ∈ namesF fr ∧ ∃ t, old = some t ∧ t.length = fr.length
  | .two op a b => EOk fr s old a ∧ EOk fr s old b ∧ (op = .mul → CMul (worthE fr s old a) (worthE fr s old b))
structure FrNm (fr : Fr) : Prop where
  few : fr.length ≤ 100
  named : ∀ y ∈ namesF fr, NmOk y
def RWorth (k : Nat) : List D → Own → D → Own → Prop := fun ds o d o' => ∃ (fr : Fr) (s : List Int) (old : Option (List Int)) (e : Exp), FrNm fr ∧ s.length = fr.length ∧ EOk fr s old e ∧ e.depth ≤ k ∧ ds = [frD fr, stD s, oldD old, e.D] ∧ d = .int (worthE fr s old e) ∧ o' = o
theorem st_at {s : List Int} {fr : Fr} {x : Str} (hx : x ∈ namesF fr) (hl : s.length = fr.length) : atI (s.map D.int) (placeF fr x : Int) = some (.int (s.getD (placeF fr x) 0)) := by
  obtain ⟨_, _, h⟩ := placeF_at hx
  refine atI_mk ?_
  have h' : placeF fr x < s.length := by rw [hl]; exact h
  rw [List.getElem?_map, List.getElem?_eq_getElem h', List.getD_eq_getElem?_getD, List.getElem?_eq_getElem h']
  rfl
section
variable {P : Program} {w : World} {K : PySem.W.Frag} {mg : Str → Option Value} {base : Heap} {f : Addr} {fd : FuncData}
theorem has_worth_of (F : Fun K "worth" "worth" s_worth f fd) (hm : mg "worth" = some (.ref f)) (B : Bi mg) (h1 : Has P w K mg base "place_of" 2 2 RPlace) (k : Nat) (hrec : ∀ j, k = j + 1 → Has P w K mg base "worth" (j + 3) 4 (RWorth j)) :
    Has P w K mg base "worth" (k + 3) 4 (RWorth k) := by
  refine has_mk (k := k + 2) F sc_worth hm (F.binds fun _ _ _ _ _ _ us hl => match us, hl with | [_, _, _, _], _ => rfl) (by rintro _ _ _ _ ⟨fr, s, old, e, _, _, _, _, rfl, _⟩; rfl) fun cdv A outer s0 H E ds o d o' hr hR => ?_
  obtain ⟨fr, s, old, e, hfr, hl, hok, hk, rfl, rfl, rfl⟩ := hR
  have h2 : Room 2 (A.deeper (envOfC "worth" (defScope s_worth) s0.heap.objs.size f cdv)) := hr.mono (by omega)
  have u65 := J.Room.u65 hr
  cases e with
  | num i =>
    refine rb_cons (rs_set 4 sc_worth.nd rfl (by walk_at "vis") (re_sub (by walk_at "var") re_int (ix_tupD rfl))) ?_
    exact rb_ret (rs_ifT (rt_cm (by walk_at "var") re_str cmp_eqS (nomark _)) (rb_one (rs_ret (re_sub (by walk_at "var") re_int (ix_tupD rfl)))))
  | nam x =>
    refine rb_cons (rs_set 4 sc_worth.nd rfl (by walk_at "vis") (re_sub (by walk_at "var") re_int (ix_tupD rfl))) ?_
    refine rb_cons (rs_ifF (rt_cm (by walk_at "var") re_str cmp_eqS (nomark _)) rb_nil) ?_
    refine rb_ret (rs_ifT (rt_cm (by walk_at "var") (by walk_at "ev") (cmp_inStr (L := ["name", "old"]) u65 .tup (by decide +kernel) (by decide +kernel) (by decide +kernel)) (by rfl)) (rb_one (rs_ret ?_)))
    exact re_sub (re_ifT (rt_cm (by walk_at "var") re_str cmp_eqS (nomark _)) (by walk_at "var")) (re_call h1 h2 (ra_cons (by walk_at "var") (ra_cons (re_sub (by walk_at "var") re_int (ix_tupD rfl)) ra_nil)) ⟨fr, x, hfr.few, hfr.named, hok, rfl, rfl, rfl⟩ rfl) (ix_tupD (st_at hok hl))
  | old x =>
    obtain ⟨hx, t, rfl, ht⟩ := hok
    refine rb_cons (rs_set 4 sc_worth.nd rfl (by walk_at "vis") (re_sub (by walk_at "var") re_int (ix_tupD rfl))) ?_
    refine rb_cons (rs_ifF (rt_cm (by walk_at "var") re_str cmp_eqS (nomark _)) rb_nil) ?_
    refine rb_ret (rs_ifT (rt_cm (by walk_at "var") (by walk_at "ev") (cmp_inStr (L := ["name", "old"]) u65 .tup (by decide +kernel) (by decide +kernel) (by decide +kernel)) (by rfl)) (rb_one (rs_ret ?_)))
    exact re_sub (re_ifF (rt_cm (by walk_at "var") re_str cmp_eqS (nomark _)) (by walk_at "var")) (re_call h1 h2 (ra_cons (by walk_at "var") (ra_cons (re_sub (by walk_at "var") re_int (ix_tupD rfl)) ra_nil)) ⟨fr, x, hfr.few, hfr.named, hx, rfl, rfl, rfl⟩ rfl) (ix_tupD (st_at hx ht))
  | two op a b =>
    obtain ⟨j, rfl⟩ : ∃ j, k = j + 1 := ⟨k - 1, by have : 1 ≤ k := Nat.le_trans (Nat.succ_le_succ (Nat.zero_le _)) hk; omega⟩
    have hr' := hrec j rfl
    have ha : a.depth ≤ j := Nat.le_trans (Nat.le_max_left _ _) (Nat.le_of_succ_le_succ hk)
    have hb : b.depth ≤ j := Nat.le_trans (Nat.le_max_right _ _) (Nat.le_of_succ_le_succ hk)
    obtain ⟨o1, o2, o3⟩ := hok
    refine rb_cons (rs_set 4 sc_worth.nd rfl (by walk_at "vis") (re_sub (by walk_at "var") re_int (ix_tupD rfl))) ?_
    refine rb_cons (rs_ifF (rt_cm (by walk_at "var") re_str cmp_eqS (nomark _)) rb_nil) ?_
    refine rb_cons (rs_ifF (rt_cm (by walk_at "var") (by walk_at "ev") (cmp_inStr (L := ["name", "old"]) u65 .tup (by decide +kernel) (by decide +kernel) (by decide +kernel)) (by rfl)) rb_nil) ?_
    refine rb_cons (rs_par 5 6 rfl sc_worth.nd rfl rfl (by decide) rfl rfl (ra_cons (re_call hr' hr (by walk_at "ra") (by exact ⟨fr, s, old, a, hfr, hl, o1, ha, rfl, rfl, rfl⟩) rfl) (ra_cons (re_call hr' hr (by walk_at "ra") (by exact ⟨fr, s, old, b, hfr, hl, o2, hb, rfl, rfl, rfl⟩) rfl) ra_nil)) rfl) ?_
    cases op with
    | min =>
      refine rb_ret (rs_ifT (rt_cm (by walk_at "ev") (by walk_at "ev") (cmp_inStr (L := ["min", "max"]) u65 .tup (by decide +kernel) (by decide +kernel) (by decide +kernel)) (by rfl)) (rb_one (rs_ret ?_)))
      exact re_ifT (rt_cm (by walk_at "ev") re_str cmp_eqS (nomark _)) (re_blt B.min (by walk_at "ra") (blt_min2 rfl))
    | max =>
      refine rb_ret (rs_ifT (rt_cm (by walk_at "ev") (by walk_at "ev") (cmp_inStr (L := ["min", "max"]) u65 .tup (by decide +kernel) (by decide +kernel) (by decide +kernel)) (by rfl)) (rb_one (rs_ret ?_)))
      exact re_ifF (rt_cm (by walk_at "ev") re_str cmp_eqS (nomark _)) (re_blt B.max (by walk_at "ra") (blt_max2 rfl))
    | mul =>
      refine rb_cons (rs_ifF (rt_cm (by walk_at "ev") (by walk_at "ev") (cmp_inStr (L := ["min", "max"]) u65 .tup (by decide +kernel) (by decide +kernel) (by decide +kernel)) (by rfl)) rb_nil) ?_
      exact rb_ret (rs_ifT (rt_cm (by walk_at "ev") re_str cmp_eqS (nomark _)) (rb_one (rs_ret (re_bin (by walk_at "var") (by walk_at "var") (bin_mulI (o3 rfl))))))
    | add =>
      refine rb_cons (rs_ifF (rt_cm (by walk_at "ev") (by walk_at "ev") (cmp_inStr (L := ["min", "max"]) u65 .tup (by decide +kernel) (by decide +kernel) (by decide +kernel)) (by rfl)) rb_nil) ?_
      refine rb_cons (rs_ifF (rt_cm (by walk_at "ev") re_str cmp_eqS (nomark _)) rb_nil) ?_
      exact rb_one (rs_ret (re_ifT (rt_cm (by walk_at "ev") re_str cmp_eqS (nomark _)) (re_bin (by walk_at "var") (by walk_at "var") bin_addI)))
    | sub =>
      refine rb_cons (rs_ifF (rt_cm (by walk_at "ev") (by walk_at "ev") (cmp_inStr (L := ["min", "max"]) u65 .tup (by decide +kernel) (by decide +kernel) (by decide +kernel)) (by rfl)) rb_nil) ?_
      refine rb_cons (rs_ifF (rt_cm (by walk_at "ev") re_str cmp_eqS (nomark _)) rb_nil) ?_
      exact rb_one (rs_ret (re_ifF (rt_cm (by walk_at "ev") re_str cmp_eqS (nomark _)) (re_bin (by walk_at "var") (by walk_at "var") bin_subI)))
theorem has_worth (F : Fun K "worth" "worth" s_worth f fd) (hm : mg "worth" = some (.ref f)) (B : Bi mg) (h1 : Has P w K mg base "place_of" 2 2 RPlace) : ∀ k, Has P w K mg base "worth" (k + 3) 4 (RWorth k)
  | 0 => has_worth_of F hm B h1 0 fun j h => by omega
  | k + 1 => has_worth_of F hm B h1 (k + 1) fun j h => by
    obtain rfl : k = j := by omega
    exact has_worth F hm B h1 k
end
end J
end

section
set_option Elab.async false
set_option maxHeartbeats 0
set_option linter.all false
set_option maxRecDepth 100000
/-! holds -/
namespace J
open PySem PySem.Spec PyProof.Rows L2
local macro_rules | `(tactic| walk_at "vis") => `(tactic| first | exact Or.inl rfl | exact Or.inr (Or.inl rfl) | exact Or.inr (Or.inr rfl))
local macro_rules | `(tactic| walk_at "loc") => `(tactic| first | exact Or.inl rfl | exact Or.inr rfl)
local macro_rules | `(tactic| walk_at "var") => `(tactic| first
  | exact re_v 0 rfl rfl (by walk_at "vis") | exact re_v 1 rfl rfl (by walk_at "vis") | exact re_v 2 rfl rfl (by walk_at "vis") | exact re_v 3 rfl rfl (by walk_at "vis")
  | exact re_v 4 rfl rfl (by walk_at "vis") | exact re_v 5 rfl rfl (by walk_at "vis") | exact re_v 6 rfl rfl (by walk_at "vis") | exact re_v 7 rfl rfl (by walk_at "vis")
  | exact re_v 8 rfl rfl (by walk_at "vis") | exact re_v 9 rfl rfl (by walk_at "vis") | exact re_v 10 rfl rfl (by walk_at "vis") | exact re_v 11 rfl rfl (by walk_at "vis")
  | exact re_v 12 rfl rfl (by walk_at "vis") | exact re_v 13 rfl rfl (by walk_at "vis") | exact re_v 14 rfl rfl (by walk_at "vis") | exact re_v 15 rfl rfl (by walk_at "vis")
  | exact re_v 16 rfl rfl (by walk_at "vis") | exact re_v 17 rfl rfl (by walk_at "vis") | exact re_v 18 rfl rfl (by walk_at "vis") | exact re_v 19 rfl rfl (by walk_at "vis"))
local macro_rules | `(tactic| walk_at "ix") => `(tactic| first | exact ix_tupD rfl | exact ix_lstD rfl | exact ix_wtD rfl)
local macro_rules | `(tactic| walk_at "len") => `(tactic| first | exact Nat.le_of_ble_eq_true rfl | assumption | (simp; done) | (simp; omega))
local macro_rules | `(tactic| walk_at "ra") => `(tactic| first | ((with_reducible show RA _ [] _ _ _ _); exact ra_nil) | ((with_reducible show RA _ (_ :: _) _ _ _ _); exact ra_cons (by walk_at "ev") (by walk_at "ra")))
local macro_rules | `(tactic| walk_at "bin") => `(tactic| first | exact bin_addI | exact bin_subI | exact bin_addT (by walk_at "len") | exact bin_addL (by walk_at "len"))
local macro_rules | `(tactic| walk_at "ev") => `(tactic| first
  | ((with_reducible show RE _ (Expr.Name _ _) _ _ _ _); walk_at "var")
  | ((with_reducible show RE _ (Expr.Constant _ _ _) _ _ _ _); first | exact re_int | exact re_str | exact re_bl | exact re_non)
  | ((with_reducible show RE _ (Expr.Tuple _ _ _) _ _ _ _); exact re_tup (by walk_at "ra") (by walk_at "len"))
  | ((with_reducible show RE _ (Expr.List _ _) _ _ _ _); exact re_lst (by walk_at "ra") (by walk_at "len"))
  | ((with_reducible show RE _ (Expr.Subscript _ _ _) _ _ _ _); exact re_sub (by walk_at "ev") (by walk_at "ev") (by walk_at "ix"))
  | ((with_reducible show RE _ (Expr.BinOp _ _ _ _) _ _ _ _); exact re_bin (by walk_at "ev") (by walk_at "ev") (by walk_at "bin"))
  | assumption)
inductive Cnd where
  | truth (b : Bool) | not (c : Cnd) | and (c d : Cnd) | or (c d : Cnd) | same (a b : Exp) | less (a b : Exp)
def Cnd.D : Cnd → D
  | .truth b => .tup [.str "truth", .bl b]
  | .not c => .tup [.str "not", c.D]
  | .and c d => .tup [.str "and", c.D, d.D]
  | .or c d => .tup [.str "or", c.D, d.D]
  | .same a b => .tup [.str "same", a.D, b.D]
  | .less a b => .tup [.str "below", a.D, b.D]
def Cnd.depth : Cnd → Nat
  | .truth _ => 0
  | .not c => c.depth + 1
  | .and c d => Nat.max c.depth d.depth + 1
  | .or c d => Nat.max c.depth d.depth + 1
  | .same a b => Nat.max a.depth b.depth
  | .less a b => Nat.max a.depth b.depth
def holdsC (fr : Fr) (s : List Int) (old : Option (List Int)) : Cnd → Bool
  | .truth b => b
  | .not c => !holdsC fr s old c
  | .and c d => holdsC fr s old c && holdsC fr s old d
  | .or c d => holdsC fr s old c || holdsC fr s old d
  | .same a b => decide (worthE fr s old a = worthE fr s old b)
  | .less a b => decide (worthE fr s old a < worthE fr s old b)
def COk (fr : Fr) (s : List Int) (old : Option (List Int)) : Cnd → Prop
  | .truth _ => True
  | .not c => COk fr s old c
  | .and c d => COk fr s old c ∧ COk fr s old d
  | .or c d => COk fr s old c ∧ COk fr s old d
  | .same a b => EOk fr s old a ∧ EOk fr s old b
  | .less a b => EOk fr s old a ∧ EOk fr s old b
def RHolds (k : Nat) : List D → Own → D → Own → Prop := fun ds o d o' => ∃ (fr : Fr) (s : List Int) (old : Option (List Int)) (c : Cnd), FrNm fr ∧ s.length = fr.length ∧ COk fr s old c ∧ c.depth ≤ k ∧ ds = [frD fr, stD s, oldD old, c.D] ∧ d = .bl (holdsC fr s old c) ∧ o' = o
section
variable {P : Program} {w : World} {K : PySem.W.Frag} {mg : Str → Option Value} {base : Heap} {f : Addr} {fd : FuncData}
/-- the tuple BOTH of the module -/
structure Both (K : PySem.W.Frag) (mg : Str → Option Value) : Prop where
  ex : ∃ (p : Addr) (vs : List V), mg "BOTH" = some (.ref p) ∧ (∀ H, SqT K H p vs) ∧ ∀ H, DenL K H vs [D.str "and", D.str "or"]
theorem has_holds_of (F : Fun K "holds" "holds" s_holds f fd) (hm : mg "holds" = some (.ref f)) (hb : Both K mg) (h1 : ∀ k, Has P w K mg base "worth" (k + 3) 4 (RWorth k)) (k : Nat) (hrec : ∀ j, k = j + 1 → Has P w K mg base "holds" (j + 4) 4 (RHolds j)) :
    Has P w K mg base "holds" (k + 4) 4 (RHolds k) := by
  refine has_mk (k := k + 3) F sc_holds hm (F.binds fun _ _ _ _ _ _ us hl => match us, hl with | [_, _, _, _], _ => rfl) (by rintro _ _ _ _ ⟨fr, s, old, c, _, _, _, _, rfl, _⟩; rfl) fun cdv A outer s0 H E ds o d o' hr hR => ?_
  obtain ⟨fr, s, old, c, hfr, hl, hok, hk, rfl, rfl, rfl⟩ := hR
  have u65 := J.Room.u65 hr
  obtain ⟨pb, vb, mb, tb, lb⟩ := hb.ex
  have pre : ∀ {c : Cnd} {ds : List D} {x : Str} {rest : List Stmt} {out : Out}, True := trivial
  cases c with
  | truth b =>
    refine rb_cons (rs_set 4 sc_holds.nd rfl (by walk_at "vis") (re_sub (by walk_at "var") re_int (ix_tupD rfl))) ?_
    exact rb_ret (rs_ifT (rt_cm (by walk_at "var") re_str cmp_eqS (nomark _)) (rb_one (rs_ret (by walk_at "ev"))))
  | not c =>
    obtain ⟨j, rfl⟩ : ∃ j, k = j + 1 := ⟨k - 1, by have : 1 ≤ k := Nat.le_trans (Nat.succ_le_succ (Nat.zero_le _)) hk; omega⟩
    have hr' := hrec j rfl
    refine rb_cons (rs_set 4 sc_holds.nd rfl (by walk_at "vis") (re_sub (by walk_at "var") re_int (ix_tupD rfl))) ?_
    refine rb_cons (rs_ifF (rt_cm (by walk_at "var") re_str cmp_eqS (nomark _)) rb_nil) ?_
    refine rb_ret (rs_ifT (rt_cm (by walk_at "var") re_str cmp_eqS (nomark _)) (rb_one (rs_ret ?_)))
    exact re_not (re_call hr' hr (by walk_at "ra") (by exact ⟨fr, s, old, c, hfr, hl, hok, Nat.le_of_succ_le_succ hk, rfl, rfl, rfl⟩) rfl)
  | and c d =>
    obtain ⟨j, rfl⟩ : ∃ j, k = j + 1 := ⟨k - 1, by have : 1 ≤ k := Nat.le_trans (Nat.succ_le_succ (Nat.zero_le _)) hk; omega⟩
    have hr' := hrec j rfl
    have hc : c.depth ≤ j := Nat.le_trans (Nat.le_max_left _ _) (Nat.le_of_succ_le_succ hk)
    have hd : d.depth ≤ j := Nat.le_trans (Nat.le_max_right _ _) (Nat.le_of_succ_le_succ hk)
    obtain ⟨o1, o2⟩ := hok
    refine rb_cons (rs_set 4 sc_holds.nd rfl (by walk_at "vis") (re_sub (by walk_at "var") re_int (ix_tupD rfl))) ?_
    refine rb_cons (rs_ifF (rt_cm (by walk_at "var") re_str cmp_eqS (nomark _)) rb_nil) ?_
    refine rb_cons (rs_ifF (rt_cm (by walk_at "var") re_str cmp_eqS (nomark _)) rb_nil) ?_
    refine rb_ret (rs_ifT (rt_cm (by walk_at "var") (re_con rfl mb tb lb) (cmp_inStr (L := ["and", "or"]) u65 .wt (by decide +kernel) (by decide +kernel) (by decide +kernel)) (by rfl)) ?_)
    refine rb_cons (rs_set 5 sc_holds.nd rfl (by walk_at "vis") (re_call hr' hr (by walk_at "ra") (by exact ⟨fr, s, old, c, hfr, hl, o1, hc, rfl, rfl, rfl⟩) rfl)) ?_
    refine rb_one (rs_ret (re_ifB (rt_cm (by walk_at "var") (re_cm (by walk_at "var") re_str cmp_eqS (nomark _)) cmp_eqB (nomark _)) (fun e => re_eq (re_call hr' hr (by walk_at "ra") (by exact ⟨fr, s, old, d, hfr, hl, o2, hd, rfl, rfl, rfl⟩) rfl) ?_) fun e => re_eq (by walk_at "var") ?_))
    · have e2 := of_decide_eq_true e
      show D.bl (holdsC fr s old d) = .bl (holdsC fr s old c && holdsC fr s old d)
      rw [show holdsC fr s old c = true from e2.trans (by decide +kernel), Bool.true_and]
    · have e2 := of_decide_eq_false e
      show D.bl (holdsC fr s old c) = .bl (holdsC fr s old c && holdsC fr s old d)
      cases q : holdsC fr s old c with
      | false => rfl
      | true => exact absurd (q.trans (by decide +kernel)) e2
  | or c d =>
    obtain ⟨j, rfl⟩ : ∃ j, k = j + 1 := ⟨k - 1, by have : 1 ≤ k := Nat.le_trans (Nat.succ_le_succ (Nat.zero_le _)) hk; omega⟩
    have hr' := hrec j rfl
    have hc : c.depth ≤ j := Nat.le_trans (Nat.le_max_left _ _) (Nat.le_of_succ_le_succ hk)
    have hd : d.depth ≤ j := Nat.le_trans (Nat.le_max_right _ _) (Nat.le_of_succ_le_succ hk)
    obtain ⟨o1, o2⟩ := hok
    refine rb_cons (rs_set 4 sc_holds.nd rfl (by walk_at "vis") (re_sub (by walk_at "var") re_int (ix_tupD rfl))) ?_
    refine rb_cons (rs_ifF (rt_cm (by walk_at "var") re_str cmp_eqS (nomark _)) rb_nil) ?_
    refine rb_cons (rs_ifF (rt_cm (by walk_at "var") re_str cmp_eqS (nomark _)) rb_nil) ?_
    refine rb_ret (rs_ifT (rt_cm (by walk_at "var") (re_con rfl mb tb lb) (cmp_inStr (L := ["and", "or"]) u65 .wt (by decide +kernel) (by decide +kernel) (by decide +kernel)) (by rfl)) ?_)
    refine rb_cons (rs_set 5 sc_holds.nd rfl (by walk_at "vis") (re_call hr' hr (by walk_at "ra") (by exact ⟨fr, s, old, c, hfr, hl, o1, hc, rfl, rfl, rfl⟩) rfl)) ?_
    refine rb_one (rs_ret (re_ifB (rt_cm (by walk_at "var") (re_cm (by walk_at "var") re_str cmp_eqS (nomark _)) cmp_eqB (nomark _)) (fun e => re_eq (re_call hr' hr (by walk_at "ra") (by exact ⟨fr, s, old, d, hfr, hl, o2, hd, rfl, rfl, rfl⟩) rfl) ?_) fun e => re_eq (by walk_at "var") ?_))
    · have e2 := of_decide_eq_true e
      show D.bl (holdsC fr s old d) = .bl (holdsC fr s old c || holdsC fr s old d)
      rw [show holdsC fr s old c = false from e2.trans (by decide +kernel), Bool.false_or]
    · have e2 := of_decide_eq_false e
      show D.bl (holdsC fr s old c) = .bl (holdsC fr s old c || holdsC fr s old d)
      cases q : holdsC fr s old c with
      | true => rfl
      | false => exact absurd (q.trans (by decide +kernel)) e2
  | same a b =>
    have ha : a.depth ≤ k := Nat.le_trans (Nat.le_max_left _ _) hk
    have hb : b.depth ≤ k := Nat.le_trans (Nat.le_max_right _ _) hk
    obtain ⟨o1, o2⟩ := hok
    refine rb_cons (rs_set 4 sc_holds.nd rfl (by walk_at "vis") (re_sub (by walk_at "var") re_int (ix_tupD rfl))) ?_
    refine rb_cons (rs_ifF (rt_cm (by walk_at "var") re_str cmp_eqS (nomark _)) rb_nil) ?_
    refine rb_cons (rs_ifF (rt_cm (by walk_at "var") re_str cmp_eqS (nomark _)) rb_nil) ?_
    refine rb_cons (rs_ifF (rt_cm (by walk_at "var") (re_con rfl mb tb lb) (cmp_inStr (L := ["and", "or"]) u65 .wt (by decide +kernel) (by decide +kernel) (by decide +kernel)) (by rfl)) rb_nil) ?_
    refine rb_cons (rs_par 5 6 rfl sc_holds.nd rfl rfl (by decide) rfl rfl (ra_cons (re_call (h1 k) hr (by walk_at "ra") (by exact ⟨fr, s, old, a, hfr, hl, o1, ha, rfl, rfl, rfl⟩) rfl) (ra_cons (re_call (h1 k) hr (by walk_at "ra") (by exact ⟨fr, s, old, b, hfr, hl, o2, hb, rfl, rfl, rfl⟩) rfl) ra_nil)) rfl) ?_
    exact rb_one (rs_ret (re_ifT (rt_cm (by walk_at "ev") re_str cmp_eqS (nomark _)) (re_cm (by walk_at "var") (by walk_at "var") cmp_eqI (nomark _))))
  | less a b =>
    have ha : a.depth ≤ k := Nat.le_trans (Nat.le_max_left _ _) hk
    have hb : b.depth ≤ k := Nat.le_trans (Nat.le_max_right _ _) hk
    obtain ⟨o1, o2⟩ := hok
    refine rb_cons (rs_set 4 sc_holds.nd rfl (by walk_at "vis") (re_sub (by walk_at "var") re_int (ix_tupD rfl))) ?_
    refine rb_cons (rs_ifF (rt_cm (by walk_at "var") re_str cmp_eqS (nomark _)) rb_nil) ?_
    refine rb_cons (rs_ifF (rt_cm (by walk_at "var") re_str cmp_eqS (nomark _)) rb_nil) ?_
    refine rb_cons (rs_ifF (rt_cm (by walk_at "var") (re_con rfl mb tb lb) (cmp_inStr (L := ["and", "or"]) u65 .wt (by decide +kernel) (by decide +kernel) (by decide +kernel)) (by rfl)) rb_nil) ?_
    refine rb_cons (rs_par 5 6 rfl sc_holds.nd rfl rfl (by decide) rfl rfl (ra_cons (re_call (h1 k) hr (by walk_at "ra") (by exact ⟨fr, s, old, a, hfr, hl, o1, ha, rfl, rfl, rfl⟩) rfl) (ra_cons (re_call (h1 k) hr (by walk_at "ra") (by exact ⟨fr, s, old, b, hfr, hl, o2, hb, rfl, rfl, rfl⟩) rfl) ra_nil)) rfl) ?_
    exact rb_one (rs_ret (re_ifF (rt_cm (by walk_at "ev") re_str cmp_eqS (nomark _)) (re_cm (by walk_at "var") (by walk_at "var") cmp_ltI (nomark _))))
theorem has_holds (F : Fun K "holds" "holds" s_holds f fd) (hm : mg "holds" = some (.ref f)) (hb : Both K mg) (h1 : ∀ k, Has P w K mg base "worth" (k + 3) 4 (RWorth k)) : ∀ k, Has P w K mg base "holds" (k + 4) 4 (RHolds k)
  | 0 => has_holds_of F hm hb h1 0 fun j h => by omega
  | k + 1 => has_holds_of F hm hb h1 (k + 1) fun j h => by
    obtain rfl : k = j := by omega
    exact has_holds F hm hb h1 k
end
end J
end

section
set_option Elab.async false
set_option maxHeartbeats 0
set_option linter.all false
set_option maxRecDepth 100000
/-! inner_frame, values_set, set_end, both_ends, ends_by -/
namespace J
open PySem PySem.Spec PyProof.Rows L2
local macro_rules | `(tactic| walk_at "vis") => `(tactic| first | exact Or.inl rfl | exact Or.inr (Or.inl rfl) | exact Or.inr (Or.inr rfl))
local macro_rules | `(tactic| walk_at "loc") => `(tactic| first | exact Or.inl rfl | exact Or.inr rfl)
local macro_rules | `(tactic| walk_at "var") => `(tactic| first
  | exact re_v 0 rfl rfl (by walk_at "vis") | exact re_v 1 rfl rfl (by walk_at "vis") | exact re_v 2 rfl rfl (by walk_at "vis") | exact re_v 3 rfl rfl (by walk_at "vis")
  | exact re_v 4 rfl rfl (by walk_at "vis") | exact re_v 5 rfl rfl (by walk_at "vis") | exact re_v 6 rfl rfl (by walk_at "vis") | exact re_v 7 rfl rfl (by walk_at "vis")
  | exact re_v 8 rfl rfl (by walk_at "vis") | exact re_v 9 rfl rfl (by walk_at "vis") | exact re_v 10 rfl rfl (by walk_at "vis") | exact re_v 11 rfl rfl (by walk_at "vis")
  | exact re_v 12 rfl rfl (by walk_at "vis") | exact re_v 13 rfl rfl (by walk_at "vis") | exact re_v 14 rfl rfl (by walk_at "vis") | exact re_v 15 rfl rfl (by walk_at "vis")
  | exact re_v 16 rfl rfl (by walk_at "vis") | exact re_v 17 rfl rfl (by walk_at "vis") | exact re_v 18 rfl rfl (by walk_at "vis") | exact re_v 19 rfl rfl (by walk_at "vis"))
local macro_rules | `(tactic| walk_at "ix") => `(tactic| first | exact ix_tupD rfl | exact ix_lstD rfl | exact ix_wtD rfl)
local macro_rules | `(tactic| walk_at "len") => `(tactic| first | exact Nat.le_of_ble_eq_true rfl | assumption | (simp; done) | (simp; omega))
local macro_rules | `(tactic| walk_at "ra") => `(tactic| first | ((with_reducible show RA _ [] _ _ _ _); exact ra_nil) | ((with_reducible show RA _ (_ :: _) _ _ _ _); exact ra_cons (by walk_at "ev") (by walk_at "ra")))
local macro_rules | `(tactic| walk_at "bin") => `(tactic| first | exact bin_addI | exact bin_subI | exact bin_addT (by walk_at "len") | exact bin_addL (by walk_at "len"))
local macro_rules | `(tactic| walk_at "ev") => `(tactic| first
  | ((with_reducible show RE _ (Expr.Name _ _) _ _ _ _); walk_at "var")
  | ((with_reducible show RE _ (Expr.Constant _ _ _) _ _ _ _); first | exact re_int | exact re_str | exact re_bl | exact re_non)
  | ((with_reducible show RE _ (Expr.Tuple _ _ _) _ _ _ _); exact re_tup (by walk_at "ra") (by walk_at "len"))
  | ((with_reducible show RE _ (Expr.List _ _) _ _ _ _); exact re_lst (by walk_at "ra") (by walk_at "len"))
  | ((with_reducible show RE _ (Expr.Subscript _ _ _) _ _ _ _); exact re_sub (by walk_at "ev") (by walk_at "ev") (by walk_at "ix"))
  | ((with_reducible show RE _ (Expr.BinOp _ _ _ _) _ _ _ _); exact re_bin (by walk_at "ev") (by walk_at "ev") (by walk_at "bin"))
  | assumption)
/-- what ends lie in: states of the frame, each once -/
def InS (fr : Fr) (r : Option (List (List Int))) : Prop := ∀ L, r = some L → ∀ s ∈ L, s ∈ statesF fr
def bothE (rs : List (Option (List (List Int)))) : Option (List (List Int)) := if rs.any (·.isNone) = true then none else some (sortA (rs.flatMap fun r => r.getD []))
theorem bothE_in {fr : Fr} {rs : List (Option (List (List Int)))} (h : ∀ r ∈ rs, InS fr r) : InS fr (bothE rs) := fun L e s hs => by
  unfold bothE at e
  split at e
  · cases e
  · cases e
    obtain ⟨r, hr, hm⟩ := List.mem_flatMap.mp ((sortA_mem s _).mp hs)
    cases r with
    | none => exact absurd hm (by simp)
    | some L => exact h _ hr L rfl s hm
/-- the table of a meaning -/
def tabD (fr : Fr) (g : List Int → Option (List (List Int))) : D := stT ((statesF fr).map fun s => (s, endsD (g s)))
theorem valD_tab {α : Type} (f : List Int → D) {s : List Int} : ∀ {L : List (List Int)}, s ∈ L → valD (L.map fun s => (s, f s)) s = some (f s)
  | x :: L, h => by
    by_cases c : x = s
    · unfold valD
      rw [List.map_cons, List.find?_cons_of_pos (by simpa using c), c]; rfl
    · have h' : s ∈ L := (List.mem_cons.mp h).resolve_left fun e => c e.symm
      have ih := valD_tab (α := α) f h'
      unfold valD at ih ⊢
      rw [List.map_cons, List.find?_cons_of_neg (by simpa using c), ih]
section
variable {P : Program} {w : World} {K : PySem.W.Frag} {mg : Str → Option Value} {base : Heap} {f : Addr} {fd : FuncData}
abbrev RInner : List D → Own → D → Own → Prop := fun ds o d o' => ∃ (fr : Fr) (r : Row) (b : D), fr.length ≤ 100 ∧ AscR fr ∧ ds = [frD fr, .tup [.str "var", .str r.1, .int r.2.1, .int r.2.2, b]] ∧ d = frD (insF r fr) ∧ o' = o
abbrev RBoth : List D → Own → D → Own → Prop := fun ds o d o' => ∃ (fr : Fr) (rs : List (Option (List (List Int)))), FrOk fr ∧ 1 ≤ fr.length ∧ (∀ r ∈ rs, InS fr r) ∧ (rs.map fun r => (r.getD []).length).sum ≤ 100000 ∧ rs.length ≤ 100000 ∧ ds = [.lst (rs.map endsD)] ∧ d = endsD (bothE rs) ∧ o' = o
theorem has_inner_frame (F : Fun K "inner_frame" "inner_frame" s_inner_frame f fd) (hm : mg "inner_frame" = some (.ref f)) (h1 : Has P w K mg base "with_name" 1 4 RWithName) : Has P w K mg base "inner_frame" 2 2 RInner := by
  refine has_mk F sc_inner_frame hm (F.binds fun _ _ _ _ _ _ us hl => match us, hl with | [_, _], _ => rfl) (by rintro _ _ _ _ ⟨fr, r, b, _, _, rfl, _⟩; rfl) fun cdv A outer s0 H E ds o d o' hr hR => ?_
  obtain ⟨fr, r, b, hlen, hasc, rfl, rfl, rfl⟩ := hR
  exact rb_one (rs_ret (re_ifT (rt_cm (by walk_at "ev") re_str cmp_eqS (nomark _)) (re_call h1 hr (by walk_at "ra") (by exact ⟨fr, r, hlen, hasc, rfl, rfl, rfl⟩) rfl)))
theorem has_both_ends (F : Fun K "both_ends" "both_ends" s_both_ends f fd) (hm : mg "both_ends" = some (.ref f)) (B : Bi mg) : Has P w K mg base "both_ends" 1 1 RBoth := by
  refine has_mk F sc_both_ends hm (F.binds fun _ _ _ _ _ _ us hl => match us, hl with | [_], _ => rfl) (by rintro _ _ _ _ ⟨fr, rs, _, _, _, _, _, rfl, _⟩; rfl) fun cdv A outer s0 H E ds o d o' hr hR => ?_
  obtain ⟨fr, rs, hfr, h1, hin, hsum, hlen, rfl, rfl, rfl⟩ := hR
  have ok : ∀ e ∈ rs.map endsD, okD e := fun e he => by
    obtain ⟨r, _, rfl⟩ := List.mem_map.mp he
    exact okEnds r
  cases hn : rs.any (·.isNone) with
  | true =>
    have e : bothE rs = none := if_pos hn
    rw [e]
    exact rb_ret (rs_ifT (rt_cm re_non (by walk_at "var") (cmp_in (J.Room.u65 hr) .lst okNon ok ((inD_non rs).trans hn)) (by rfl)) (rb_one (rs_ret re_non)))
  | false =>
    have e : bothE rs = some (sortA (rs.flatMap fun r => r.getD [])) := if_neg (by rw [hn]; exact Bool.false_ne_true)
    rw [e]
    refine rb_cons (rs_ifF (rt_cm re_non (by walk_at "var") (cmp_in (J.Room.u65 hr) .lst okNon ok ((inD_non rs).trans hn)) (by rfl)) rb_nil) ?_
    have hmem : ∀ s ∈ (rs.flatMap fun r => r.getD []), s ∈ statesF fr := fun s hs => by
      obtain ⟨r, hr, hm⟩ := List.mem_flatMap.mp hs
      cases r with
      | none => exact absurd hm (by simp)
      | some L => exact hin _ hr L rfl s hm
    refine rb_one (rs_ret (re_tyc B.tuple (ra_cons (re_sortedSet (xs := rs.flatMap fun r => r.getD []) (U := statesF fr) (k := fr.length) rfl (J.Room.u3 hr) B.sorted B.set (re_l ?_) (.inl rfl) (fun s hs => statesF_len (hmem s hs)) h1 ?_ hmem) ra_nil) ty_tuple))
    · refine rl_eq (rl_lc2 [("row", 1), ("end", 2)] [2] rs endsD (fun r => [some (.lst (rs.map endsD)), some (endsD r), none]) [1] (fun r => r.getD []) (fun _ s => stD s) (fun r s => [some (.lst (rs.map endsD)), some (endsD r), some (stD s)]) [2] (fun _ _ => true) (fun _ s => stD s)
        rfl sc_both_ends.nd (ri_list (by walk_at "var")) (blkOk_by (N := n_both_ends) (sc := defScope s_both_ends) (by decide +kernel)) (by decide) (fun s1 H1 C cl fp r hrs => ⟨rg_name 1 sc_both_ends.nd rfl (by walk_at "loc"), ?_, fun s hs => ⟨rg_name 2 sc_both_ends.nd rfl (by walk_at "loc"), rts_nil, fun _ => by walk_at "var"⟩⟩) (by decide) (by decide) hsum) ?_
      · cases r with
        | none =>
          have : rs.any (·.isNone) = true := List.any_eq_true.mpr ⟨none, hrs, rfl⟩
          rw [hn] at this; cases this
        | some L => exact ri_tup (by walk_at "var")
      · rw [List.map_flatMap]
        congr 1
        congr 1
        funext r
        rw [List.filter_eq_self.mpr (fun _ _ => rfl)]
    · have z := hfr.size fr.length
      rw [List.take_length] at z
      exact Nat.lt_of_le_of_lt z (by decide)
abbrev REndsBy : List D → Own → D → Own → Prop := fun ds o d o' => ∃ (fr : Fr) (r : Option (List (List Int))) (g : List Int → Option (List (List Int))), FrOk fr ∧ 1 ≤ fr.length ∧ InS fr r ∧ (∀ s ∈ statesF fr, InS fr (g s)) ∧ (r.getD []).length ≤ 60 ∧ (∀ s ∈ statesF fr, ((g s).getD []).length ≤ 60) ∧
  ds = [endsD r, tabD fr g] ∧ d = endsD (r.bind fun L => bothE (L.map g)) ∧ o' = o
theorem sum_le {α : Type} (n : Nat) (f : α → Nat) : ∀ {L : List α}, (∀ a ∈ L, f a ≤ n) → (L.map f).sum ≤ L.length * n
  | [], _ => Nat.zero_le _
  | a :: L, h => by
    have h1 := h a List.mem_cons_self
    have h2 := sum_le n f (L := L) fun b hb => h b (List.mem_cons_of_mem _ hb)
    rw [List.map_cons, List.sum_cons, List.length_cons, Nat.add_mul, Nat.one_mul]
    omega
theorem has_ends_by (F : Fun K "ends_by" "ends_by" s_ends_by f fd) (hm : mg "ends_by" = some (.ref f)) (h1 : Has P w K mg base "both_ends" 1 1 RBoth) : Has P w K mg base "ends_by" 2 2 REndsBy := by
  refine has_mk F sc_ends_by hm (F.binds fun _ _ _ _ _ _ us hl => match us, hl with | [_, _], _ => rfl) (by rintro _ _ _ _ ⟨fr, r, g, _, _, _, _, _, _, rfl, _⟩; rfl) fun cdv A outer s0 H E ds o d o' hr hR => ?_
  obtain ⟨fr, r, g, hfr, hd, hin, hg, hl, hgl, rfl, rfl, rfl⟩ := hR
  cases r with
  | none => exact rb_one (rs_ret (re_ifT (rt_cm (by walk_at "var") re_non cmp_isN' (by rfl)) re_non))
  | some L =>
    have hs : ∀ s ∈ L, s ∈ statesF fr := hin L rfl
    have h60 : (L.map fun s => ((g s).getD []).length).sum ≤ L.length * 60 := sum_le 60 _ fun s hm => hgl s (hs s hm)
    have hl' : L.length ≤ 60 := hl
    refine rb_one (rs_ret (re_ifF (rt_cm (by walk_at "var") re_non cmp_isN' (by rfl)) (re_call h1 hr (ra_cons (re_l (d := .lst ((L.map g).map endsD)) ?_) ra_nil)
      (by exact ⟨fr, L.map g, hfr, hd, fun r hm => (by obtain ⟨s, h, rfl⟩ := List.mem_map.mp hm; exact hg s (hs s h)), by rw [List.map_map]; exact Nat.le_trans h60 (by omega), by rw [List.length_map]; omega, rfl, rfl, rfl⟩) rfl)))
    rw [List.map_map]
    refine rl_map [("end", 2)] L stD (fun s => [some (endsD (some L)), some (tabD fr g), some (stD s)]) [2] _ rfl sc_ends_by.nd (ri_tup (by walk_at "var")) (blkOk_by (N := n_ends_by) (sc := defScope s_ends_by) (by decide +kernel)) (fun s1 H1 C cl fp s hm => ⟨rg_name 2 sc_ends_by.nd rfl (by walk_at "loc"), ?_⟩) (by decide) (by omega)
    exact re_dget (J.Room.u1 hr) (by walk_at "var") (by walk_at "var") (by
      have z := gets_S (K := K) (o := o') (m := (statesF fr).map fun s => (s, endsD (g s))) (s := s)
      rw [valD_tab (α := Unit) (fun s => endsD (g s)) (hs s hm)] at z
      exact z)
end
end J
end

section
set_option Elab.async false
set_option maxHeartbeats 0
set_option linter.all false
set_option maxRecDepth 100000
/-! values_set, set_end, is_kept, spec_ends -/
namespace J
open PySem PySem.Spec PyProof.Rows L2
local macro_rules | `(tactic| walk_at "vis") => `(tactic| first | exact Or.inl rfl | exact Or.inr (Or.inl rfl) | exact Or.inr (Or.inr rfl))
local macro_rules | `(tactic| walk_at "loc") => `(tactic| first | exact Or.inl rfl | exact Or.inr rfl)
local macro_rules | `(tactic| walk_at "var") => `(tactic| first
  | exact re_v 0 rfl rfl (by walk_at "vis") | exact re_v 1 rfl rfl (by walk_at "vis") | exact re_v 2 rfl rfl (by walk_at "vis") | exact re_v 3 rfl rfl (by walk_at "vis")
  | exact re_v 4 rfl rfl (by walk_at "vis") | exact re_v 5 rfl rfl (by walk_at "vis") | exact re_v 6 rfl rfl (by walk_at "vis") | exact re_v 7 rfl rfl (by walk_at "vis")
  | exact re_v 8 rfl rfl (by walk_at "vis") | exact re_v 9 rfl rfl (by walk_at "vis") | exact re_v 10 rfl rfl (by walk_at "vis") | exact re_v 11 rfl rfl (by walk_at "vis")
  | exact re_v 12 rfl rfl (by walk_at "vis") | exact re_v 13 rfl rfl (by walk_at "vis") | exact re_v 14 rfl rfl (by walk_at "vis") | exact re_v 15 rfl rfl (by walk_at "vis")
  | exact re_v 16 rfl rfl (by walk_at "vis") | exact re_v 17 rfl rfl (by walk_at "vis") | exact re_v 18 rfl rfl (by walk_at "vis") | exact re_v 19 rfl rfl (by walk_at "vis"))
local macro_rules | `(tactic| walk_at "ix") => `(tactic| first | exact ix_tupD rfl | exact ix_lstD rfl | exact ix_wtD rfl)
local macro_rules | `(tactic| walk_at "len") => `(tactic| first | exact Nat.le_of_ble_eq_true rfl | assumption | (simp; done) | (simp; omega))
local macro_rules | `(tactic| walk_at "ra") => `(tactic| first | ((with_reducible show RA _ [] _ _ _ _); exact ra_nil) | ((with_reducible show RA _ (_ :: _) _ _ _ _); exact ra_cons (by walk_at "ev") (by walk_at "ra")))
local macro_rules | `(tactic| walk_at "bin") => `(tactic| first | exact bin_addI | exact bin_subI | exact bin_addT (by walk_at "len") | exact bin_addL (by walk_at "len"))
local macro_rules | `(tactic| walk_at "ev") => `(tactic| first
  | ((with_reducible show RE _ (Expr.Name _ _) _ _ _ _); walk_at "var")
  | ((with_reducible show RE _ (Expr.Constant _ _ _) _ _ _ _); first | exact re_int | exact re_str | exact re_bl | exact re_non)
  | ((with_reducible show RE _ (Expr.Tuple _ _ _) _ _ _ _); exact re_tup (by walk_at "ra") (by walk_at "len"))
  | ((with_reducible show RE _ (Expr.List _ _) _ _ _ _); exact re_lst (by walk_at "ra") (by walk_at "len"))
  | ((with_reducible show RE _ (Expr.Subscript _ _ _) _ _ _ _); exact re_sub (by walk_at "ev") (by walk_at "ev") (by walk_at "ix"))
  | ((with_reducible show RE _ (Expr.BinOp _ _ _ _) _ _ _ _); exact re_bin (by walk_at "ev") (by walk_at "ev") (by walk_at "bin"))
  | assumption)
theorem nodup_inj {α β : Type} {f : α → β} (hf : ∀ a b, f a = f b → a = b) : ∀ {l : List α}, l.Nodup → (l.map f).Nodup
  | [], _ => List.nodup_nil
  | x :: l, h => by
    obtain ⟨h1, h2⟩ := List.nodup_cons.mp h
    refine List.nodup_cons.mpr ⟨fun hm => ?_, nodup_inj hf h2⟩
    obtain ⟨y, hy, e⟩ := List.mem_map.mp hm
    rw [hf y x e] at hy
    exact h1 hy
abbrev Prs := List (Str × Exp)
def prsD (ps : Prs) : D := .tup (ps.map fun p => .tup [.str p.1, p.2.D])
def valsF (fr : Fr) (ps : Prs) (s : List Int) : List (Str × Int) := ps.map fun p => (p.1, worthE fr s none p.2)
structure POk (fr : Fr) (ps : Prs) (s : List Int) (k : Nat) : Prop where
  ok : ∀ p ∈ ps, EOk fr s none p.2 ∧ p.2.depth ≤ k
  one : (ps.map (·.1)).Nodup
  few : ps.length ≤ 100
def setE (fr : Fr) (ps : Prs) (s : List Int) : Option (List (List Int)) := if inF fr (withF fr s (valsF fr ps s)) = true then some [withF fr s (valsF fr ps s)] else none
/-- the places and rows of a frame -/
def enumF : Nat → Fr → List (Nat × Row)
  | _, [] => []
  | i, r :: f => (i, r) :: enumF (i + 1) f
theorem enumF_D : ∀ (i : Nat) (f : Fr), enumD i (f.map rowD) = (enumF i f).map fun p => D.tup [.int (p.1 : Int), rowD p.2]
  | _, [] => rfl
  | i, r :: f => by
    show D.tup [.int (i : Int), rowD r] :: enumD (i + 1) (f.map rowD) = _
    rw [enumF_D (i + 1) f]; rfl
theorem enumF_lt : ∀ (i : Nat) (f : Fr) (p : Nat × Row), p ∈ enumF i f → i ≤ p.1 ∧ p.1 < i + f.length ∧ p.2 ∈ f
  | _, [], _, h => nomatch h
  | i, r :: f, p, h => by
    rcases List.mem_cons.mp h with e | h
    · subst e
      exact ⟨Nat.le_refl _, by show i < i + (f.length + 1); omega, List.mem_cons_self⟩
    · obtain ⟨h1, h2, h3⟩ := enumF_lt (i + 1) f p h
      exact ⟨by omega, by show p.1 < i + (f.length + 1); omega, List.mem_cons_of_mem _ h3⟩
theorem enumF_len : ∀ (i : Nat) (f : Fr), (enumF i f).length = f.length
  | _, [] => rfl
  | i, r :: f => congrArg (· + 1) (enumF_len (i + 1) f)
def keptF (fr : Fr) (ns : List Str) (a b : List Int) : Bool := (((enumF 0 fr).filter fun p => !decide (p.2.1 ∈ ns)).map fun p => decide (a.getD p.1 0 = b.getD p.1 0)).all id
def specE (fr : Fr) (ns : List Str) (pre post : Cnd) (s : List Int) : Option (List (List Int)) :=
  if holdsC fr s none pre = true then some (((statesF fr).filter fun e => keptF fr ns s e).filter fun e => holdsC fr e (some s) post) else none
theorem getD_at {s : List Int} {i : Nat} (h : i < s.length) : atI (s.map D.int) (i : Int) = some (.int (s.getD i 0)) := by
  refine atI_mk ?_
  rw [List.getElem?_map, List.getElem?_eq_getElem h, List.getD_eq_getElem?_getD, List.getElem?_eq_getElem h]
  rfl
section
variable {P : Program} {w : World} {K : PySem.W.Frag} {mg : Str → Option Value} {base : Heap} {f : Addr} {fd : FuncData}
def RValues (k : Nat) : List D → Own → D → Own → Prop := fun ds o d o' => ∃ (fr : Fr) (ps : Prs) (s : List Int), FrNm fr ∧ s.length = fr.length ∧ POk fr ps s k ∧ ds = [frD fr, prsD ps, stD s] ∧ d = valsD (valsF fr ps s) ∧ o' = o
def RSet (k : Nat) : List D → Own → D → Own → Prop := fun ds o d o' => ∃ (fr : Fr) (ps : Prs) (s : List Int), FrNm fr ∧ s.length = fr.length ∧ POk fr ps s k ∧ ds = [frD fr, prsD ps, stD s] ∧ d = endsD (setE fr ps s) ∧ o' = o
theorem has_values_set (F : Fun K "values_set" "values_set" s_values_set f fd) (hm : mg "values_set" = some (.ref f)) (B : Bi mg) (h1 : ∀ k, Has P w K mg base "worth" (k + 3) 4 (RWorth k)) (k : Nat) : Has P w K mg base "values_set" (k + 4) 3 (RValues k) := by
  refine has_mk (k := k + 3) F sc_values_set hm (F.binds fun _ _ _ _ _ _ us hl => match us, hl with | [_, _, _], _ => rfl) (by rintro _ _ _ _ ⟨fr, ps, s, _, _, _, rfl, _⟩; rfl) fun cdv A outer s0 H E ds o d o' hr hR => ?_
  obtain ⟨fr, ps, s, hfr, hl, hok, rfl, rfl, rfl⟩ := hR
  have hd : mergeD [] (ps.map fun p => ((Sum.inr p.1 : Key), D.int (worthE fr s none p.2))) = (valsF fr ps s).map fun p => (Sum.inr p.1, D.int p.2) := by
    refine (mergeD_nodup _ _ ?_).trans ?_
    · rw [List.nil_append, List.map_map]
      have z := nodup_inj (f := fun x : Str => (Sum.inr x : Key)) (fun a b e => Sum.inr.inj e) hok.one
      rw [List.map_map] at z
      exact z
    · unfold valsF
      rw [List.nil_append, List.map_map]
      rfl
  refine rb_one (rs_ret (re_eq (re_tyc B.dict (ra_cons (re_l (d := .lst (ps.map fun p => D.tup [keyD (.inr p.1), .int (worthE fr s none p.2)])) ?_) ra_nil) (ty_dictK rfl)) (by unfold valsD; rw [hd])))
  refine rl_map [("name", 3), ("expr", 4)] ps (fun p => .tup [.str p.1, p.2.D]) (fun p => [some (frD fr), some (prsD ps), some (stD s), some (.str p.1), some p.2.D]) [3, 4] _ rfl sc_values_set.nd (ri_tup (by walk_at "var")) (blkOk_by (N := n_values_set) (sc := defScope s_values_set) (by decide +kernel)) (fun s1 H1 C cl fp p hm => ⟨?_, ?_⟩) (by decide) (Nat.le_trans hok.few (by decide))
  · exact rg_tup rfl (rgs_cons (rg_name 3 sc_values_set.nd rfl (by walk_at "loc")) (rgs_cons (rg_name 4 sc_values_set.nd rfl (by walk_at "loc")) rgs_nil))
  · exact re_tup (ra_cons (by walk_at "var") (ra_cons (re_call (h1 k) hr (by exact ra_cons (by walk_at "var") (ra_cons (by walk_at "var") (ra_cons re_non (ra_cons (by walk_at "var") ra_nil)))) (by exact ⟨fr, s, none, p.2, hfr, hl, (hok.ok p hm).1, (hok.ok p hm).2, rfl, rfl, rfl⟩) rfl) ra_nil)) (by walk_at "len")
theorem has_set_end (F : Fun K "set_end" "set_end" s_set_end f fd) (hm : mg "set_end" = some (.ref f)) (k : Nat) (h1 : Has P w K mg base "values_set" (k + 4) 3 (RValues k)) (h2 : Has P w K mg base "with_values" 1 3 RWithValues) (h3 : Has P w K mg base "is_state" 2 2 RIsState) : Has P w K mg base "set_end" (k + 5) 3 (RSet k) := by
  refine has_mk (k := k + 4) F sc_set_end hm (F.binds fun _ _ _ _ _ _ us hl => match us, hl with | [_, _, _], _ => rfl) (by rintro _ _ _ _ ⟨fr, ps, s, _, _, _, rfl, _⟩; rfl) fun cdv A outer s0 H E ds o d o' hr hR => ?_
  obtain ⟨fr, ps, s, hfr, hl, hok, rfl, rfl, rfl⟩ := hR
  refine rb_cons (rs_set 3 sc_set_end.nd rfl (by walk_at "vis") (re_call h2 (hr.mono (by omega)) (ra_cons (by walk_at "var") (ra_cons (by walk_at "var") (ra_cons (re_call h1 hr (by walk_at "ra") (by exact ⟨fr, ps, s, hfr, hl, hok, rfl, rfl, rfl⟩) rfl) ra_nil))) (by exact ⟨fr, s, valsF fr ps s, hfr.few, hl, rfl, rfl, rfl⟩) rfl)) ?_
  refine rb_one (rs_ret (re_ifB (rt_val (re_call h3 (hr.mono (by omega)) (by walk_at "ra") (by exact ⟨fr, withF fr s (valsF fr ps s), hfr.few, withF_len hl, rfl, rfl, rfl⟩) rfl)) (fun e => ?_) fun e => ?_))
  · unfold setE
    rw [if_pos e]
    exact re_tup (ra_cons (by walk_at "var") ra_nil) (by walk_at "len")
  · unfold setE
    rw [if_neg (by rw [e]; exact Bool.false_ne_true)]
    exact re_non
abbrev RKept : List D → Own → D → Own → Prop := fun ds o d o' => ∃ (fr : Fr) (ns : List Str) (a b : List Int), FrNm fr ∧ (∀ x ∈ ns, NmOk x) ∧ a.length = fr.length ∧ b.length = fr.length ∧ ds = [frD fr, .tup (ns.map .str), stD a, stD b] ∧ d = .bl (keptF fr ns a b) ∧ o' = o
theorem has_is_kept (F : Fun K "is_kept" "is_kept" s_is_kept f fd) (hm : mg "is_kept" = some (.ref f)) (B : Bi mg) : Has P w K mg base "is_kept" 1 4 RKept := by
  refine has_mk F sc_is_kept hm (F.binds fun _ _ _ _ _ _ us hl => match us, hl with | [_, _, _, _], _ => rfl) (by rintro _ _ _ _ ⟨fr, ns, a, b, _, _, _, _, rfl, _⟩; rfl) fun cdv A outer s0 H E ds o d o' hr hR => ?_
  obtain ⟨fr, ns, a, b, hfr, hns, ha, hb, rfl, rfl, rfl⟩ := hR
  refine rb_one (rs_ret (re_blt B.all (ra_cons (re_l (d := .lst ((((enumF 0 fr).filter fun p => !decide (p.2.1 ∈ ns)).map fun p => decide (a.getD p.1 0 = b.getD p.1 0)).map .bl)) ?_) ra_nil) (blt_all rfl)))
  rw [List.map_map]
  refine rl_lc [("k", 4), ("own", 5)] (enumF 0 fr) (fun p => D.tup [.int (p.1 : Int), rowD p.2]) (fun p => [some (frD fr), some (.tup (ns.map .str)), some (stD a), some (stD b), some (.int (p.1 : Int)), some (rowD p.2)]) [4, 5] _ _ rfl sc_is_kept.nd (ri_eq (ri_enum rfl B.enum (by walk_at "var")) (enumF_D 0 fr)) (blkOk_by (N := n_is_kept) (sc := defScope s_is_kept) (by decide +kernel)) (fun s1 H1 C cl fp p hm => ⟨?_, ?_, fun _ => ?_⟩) (by decide) (by rw [enumF_len]; exact Nat.le_trans hfr.few (by decide))
  · exact rg_tup rfl (rgs_cons (rg_name 4 sc_is_kept.nd rfl (by walk_at "loc")) (rgs_cons (rg_name 5 sc_is_kept.nd rfl (by walk_at "loc")) rgs_nil))
  · obtain ⟨_, _, h3⟩ := enumF_lt 0 fr p hm
    exact rts_one (rt_cm (by walk_at "ev") (by walk_at "var") (cmp_ninStr (J.Room.u65 hr) .tup (hfr.named _ (List.mem_map_of_mem h3)) hns rfl) (by rfl))
  · obtain ⟨_, h2, _⟩ := enumF_lt 0 fr p hm
    rw [Nat.zero_add] at h2
    exact re_cm (re_sub (by walk_at "var") (by walk_at "var") (ix_tupD (getD_at (by rw [ha]; exact h2)))) (re_sub (by walk_at "var") (by walk_at "var") (ix_tupD (getD_at (by rw [hb]; exact h2)))) cmp_eqI (nomark _)
def spD' (ns : List Str) (pre post : Cnd) : D := .tup [.str "spec", .tup (ns.map .str), pre.D, post.D]
structure SpOk (fr : Fr) (ns : List Str) (pre post : Cnd) (k : Nat) : Prop where
  named : ∀ x ∈ ns, NmOk x
  okPre : ∀ s ∈ statesF fr, COk fr s none pre
  okPost : ∀ s ∈ statesF fr, ∀ e ∈ statesF fr, COk fr e (some s) post
  deep : pre.depth ≤ k ∧ post.depth ≤ k
def RSpec (k : Nat) : List D → Own → D → Own → Prop := fun ds o d o' => ∃ (fr : Fr) (ns : List Str) (pre post : Cnd) (s : List Int), FrNm fr ∧ FrOk fr ∧ SpOk fr ns pre post k ∧ s ∈ statesF fr ∧ ds = [frD fr, spD' ns pre post, stD s, .lst ((statesF fr).map stD)] ∧ d = endsD (specE fr ns pre post s) ∧ o' = o
theorem has_spec_ends (F : Fun K "spec_ends" "spec_ends" s_spec_ends f fd) (hm : mg "spec_ends" = some (.ref f)) (B : Bi mg) (k : Nat) (h1 : Has P w K mg base "holds" (k + 4) 4 (RHolds k)) (h2 : Has P w K mg base "is_kept" 1 4 RKept) : Has P w K mg base "spec_ends" (k + 5) 4 (RSpec k) := by
  refine has_mk (k := k + 4) F sc_spec_ends hm (F.binds fun _ _ _ _ _ _ us hl => match us, hl with | [_, _, _, _], _ => rfl) (by rintro _ _ _ _ ⟨fr, ns, pre, post, s, _, _, _, _, rfl, _⟩; rfl) fun cdv A outer s0 H E ds o d o' hr hR => ?_
  obtain ⟨fr, ns, pre, post, s, hnm, hfr, hok, hs, rfl, rfl, rfl⟩ := hR
  have hl := statesF_len hs
  have h60 : (statesF fr).length ≤ 60 := by
    have z := hfr.size fr.length
    rw [List.take_length] at z
    exact z
  refine rb_cons (rs_unp (by walk_at "var") (rg_tup rfl (rgs_cons (rg_name 4 sc_spec_ends.nd rfl (by walk_at "loc")) (rgs_cons (rg_name 5 sc_spec_ends.nd rfl (by walk_at "loc")) (rgs_cons (rg_name 6 sc_spec_ends.nd rfl (by walk_at "loc")) (rgs_cons (rg_name 7 sc_spec_ends.nd rfl (by walk_at "loc")) rgs_nil)))))) ?_
  cases hp : holdsC fr s none pre with
  | false =>
    have e : specE fr ns pre post s = none := if_neg (by rw [hp]; exact Bool.false_ne_true)
    rw [e]
    exact rb_ret (rs_ifT (rt_not (k := false) (rt_val (re_eq (re_call h1 hr (by exact ra_cons (by walk_at "var") (ra_cons (by walk_at "var") (ra_cons re_non (ra_cons (by walk_at "var") ra_nil)))) (by exact ⟨fr, s, none, pre, hnm, hl, hok.okPre s hs, hok.deep.1, rfl, rfl, rfl⟩) rfl) (by rw [hp])))) (rb_one (rs_ret re_non)))
  | true =>
    have e : specE fr ns pre post s = some (((statesF fr).filter fun e => keptF fr ns s e).filter fun e => holdsC fr e (some s) post) := if_pos hp
    rw [e]
    refine rb_cons (rs_ifF (rt_not (k := true) (rt_val (re_eq (re_call h1 hr (by exact ra_cons (by walk_at "var") (ra_cons (by walk_at "var") (ra_cons re_non (ra_cons (by walk_at "var") ra_nil)))) (by exact ⟨fr, s, none, pre, hnm, hl, hok.okPre s hs, hok.deep.1, rfl, rfl, rfl⟩) rfl) (by rw [hp])))) rb_nil) ?_
    refine rb_cons (o1 := o') (γ1 := [some (frD fr), some (spD' ns pre post), some (stD s), some (.lst ((statesF fr).map stD)), some (.str "spec"), some (.tup (ns.map .str)), some pre.D, some post.D, some (.lst (((statesF fr).filter fun e => keptF fr ns s e).map stD)), none]) (rs_setL 8 sc_spec_ends.nd rfl rfl ?_ rfl) ?_
    · refine rl_lc [("end", 9)] (statesF fr) stD (fun e => [some (frD fr), some (spD' ns pre post), some (stD s), some (.lst ((statesF fr).map stD)), some (.str "spec"), some (.tup (ns.map .str)), some pre.D, some post.D, none, some (stD e)]) [9] _ stD rfl sc_spec_ends.nd (ri_list (by walk_at "var")) (blkOk_by (N := n_spec_ends) (sc := defScope s_spec_ends) (by decide +kernel)) (fun s1 H1 C cl fp e hm => ⟨rg_name 9 sc_spec_ends.nd rfl (by walk_at "loc"), ?_, fun _ => by walk_at "var"⟩) (by decide) (by omega)
      exact rts_one (rt_val (re_call h2 (hr.mono (by omega)) (by walk_at "ra") (by exact ⟨fr, ns, s, e, hnm, hok.named, hl, statesF_len hm, rfl, rfl, rfl⟩) rfl))
    · refine rb_one (rs_ret (re_tyc B.tuple (ra_cons (re_l ?_) ra_nil) ty_tuple))
      refine rl_lc [("end", 9)] ((statesF fr).filter fun e => keptF fr ns s e) stD (fun e => [some (frD fr), some (spD' ns pre post), some (stD s), some (.lst ((statesF fr).map stD)), some (.str "spec"), some (.tup (ns.map .str)), some pre.D, some post.D, some (.lst (((statesF fr).filter fun e => keptF fr ns s e).map stD)), some (stD e)]) [9] _ stD rfl sc_spec_ends.nd (ri_list (by walk_at "var")) (blkOk_by (N := n_spec_ends) (sc := defScope s_spec_ends) (by decide +kernel)) (fun s1 H1 C cl fp e hm => ⟨rg_name 9 sc_spec_ends.nd rfl (by walk_at "loc"), ?_, fun _ => by walk_at "var"⟩) (by decide) (Nat.le_trans (List.length_filter_le _ _) (by omega))
      have hm' := (List.mem_filter.mp hm).1
      exact rts_one (rt_val (re_call h1 hr (by walk_at "ra") (by exact ⟨fr, e, some s, post, hnm, statesF_len hm', hok.okPost s hs e hm', hok.deep.2, rfl, rfl, rfl⟩) rfl))
end
end J
end

section
set_option Elab.async false
set_option maxHeartbeats 0
set_option linter.all false
set_option maxRecDepth 100000
/-! commands and what they mean; if_meant -/
namespace J
open PySem PySem.Spec PyProof.Rows L2
local macro_rules | `(tactic| walk_at "vis") => `(tactic| first | exact Or.inl rfl | exact Or.inr (Or.inl rfl) | exact Or.inr (Or.inr rfl))
local macro_rules | `(tactic| walk_at "loc") => `(tactic| first | exact Or.inl rfl | exact Or.inr rfl)
local macro_rules | `(tactic| walk_at "var") => `(tactic| first
  | exact re_v 0 rfl rfl (by walk_at "vis") | exact re_v 1 rfl rfl (by walk_at "vis") | exact re_v 2 rfl rfl (by walk_at "vis") | exact re_v 3 rfl rfl (by walk_at "vis")
  | exact re_v 4 rfl rfl (by walk_at "vis") | exact re_v 5 rfl rfl (by walk_at "vis") | exact re_v 6 rfl rfl (by walk_at "vis") | exact re_v 7 rfl rfl (by walk_at "vis")
  | exact re_v 8 rfl rfl (by walk_at "vis") | exact re_v 9 rfl rfl (by walk_at "vis") | exact re_v 10 rfl rfl (by walk_at "vis") | exact re_v 11 rfl rfl (by walk_at "vis")
  | exact re_v 12 rfl rfl (by walk_at "vis") | exact re_v 13 rfl rfl (by walk_at "vis") | exact re_v 14 rfl rfl (by walk_at "vis") | exact re_v 15 rfl rfl (by walk_at "vis")
  | exact re_v 16 rfl rfl (by walk_at "vis") | exact re_v 17 rfl rfl (by walk_at "vis") | exact re_v 18 rfl rfl (by walk_at "vis") | exact re_v 19 rfl rfl (by walk_at "vis"))
local macro_rules | `(tactic| walk_at "ix") => `(tactic| first | exact ix_tupD rfl | exact ix_lstD rfl | exact ix_wtD rfl)
local macro_rules | `(tactic| walk_at "len") => `(tactic| first | exact Nat.le_of_ble_eq_true rfl | assumption | (simp; done) | (simp; omega))
local macro_rules | `(tactic| walk_at "ra") => `(tactic| first | ((with_reducible show RA _ [] _ _ _ _); exact ra_nil) | ((with_reducible show RA _ (_ :: _) _ _ _ _); exact ra_cons (by walk_at "ev") (by walk_at "ra")))
local macro_rules | `(tactic| walk_at "bin") => `(tactic| first | exact bin_addI | exact bin_subI | exact bin_addT (by walk_at "len") | exact bin_addL (by walk_at "len"))
local macro_rules | `(tactic| walk_at "ev") => `(tactic| first
  | ((with_reducible show RE _ (Expr.Name _ _) _ _ _ _); walk_at "var")
  | ((with_reducible show RE _ (Expr.Constant _ _ _) _ _ _ _); first | exact re_int | exact re_str | exact re_bl | exact re_non)
  | ((with_reducible show RE _ (Expr.Tuple _ _ _) _ _ _ _); exact re_tup (by walk_at "ra") (by walk_at "len"))
  | ((with_reducible show RE _ (Expr.List _ _) _ _ _ _); exact re_lst (by walk_at "ra") (by walk_at "len"))
  | ((with_reducible show RE _ (Expr.Subscript _ _ _) _ _ _ _); exact re_sub (by walk_at "ev") (by walk_at "ev") (by walk_at "ix"))
  | ((with_reducible show RE _ (Expr.BinOp _ _ _ _) _ _ _ _); exact re_bin (by walk_at "ev") (by walk_at "ev") (by walk_at "bin"))
  | assumption)
abbrev Ends := Option (List (List Int))
abbrev Mean := List Int → Ends
/-! ### states of a frame -/
theorem mem_numsF {lo hi v : Int} : v ∈ numsF lo hi ↔ lo ≤ v ∧ v ≤ hi := by
  unfold numsF
  rw [List.mem_map]
  constructor
  · rintro ⟨i, hi', rfl⟩
    have := List.mem_range.mp hi'
    omega
  · rintro ⟨h1, h2⟩
    exact ⟨(v - lo).toNat, List.mem_range.mpr (by omega), by omega⟩
theorem inF_cons (v : Int) (s : List Int) (r : Row) (f : Fr) : inF (r :: f) (v :: s) = (decide (r.2.1 ≤ v) && decide (v ≤ r.2.2) && inF f s) := rfl
theorem mem_statesFrom {s : List Int} : ∀ {f : Fr} {found : List (List Int)}, s ∈ statesFrom found f ↔ ∃ t ∈ found, ∃ u, s = t ++ u ∧ u.length = f.length ∧ inF f u = true
  | [], found => ⟨fun h => ⟨s, h, [], (List.append_nil s).symm, rfl, rfl⟩, fun ⟨t, ht, u, e, hl, _⟩ => by
      rw [e, List.length_eq_zero_iff.mp hl, List.append_nil]; exact ht⟩
  | r :: f, found => by
    show s ∈ statesFrom _ f ↔ _
    rw [mem_statesFrom (f := f)]
    constructor
    · rintro ⟨t, ht, u, e, hl, hi⟩
      obtain ⟨t0, h0, h1⟩ := List.mem_flatMap.mp ht
      obtain ⟨v, hv, rfl⟩ := List.mem_map.mp h1
      obtain ⟨a, b⟩ := mem_numsF.mp hv
      refine ⟨t0, h0, v :: u, by rw [e, List.append_assoc]; rfl, by rw [List.length_cons, List.length_cons, hl], ?_⟩
      rw [inF_cons, decide_eq_true a, decide_eq_true b, hi]; rfl
    · rintro ⟨t, ht, u, e, hl, hi⟩
      cases u with
      | nil => cases hl
      | cons v u =>
        rw [inF_cons, Bool.and_eq_true, Bool.and_eq_true] at hi
        obtain ⟨⟨h1, h2⟩, h3⟩ := hi
        exact ⟨t ++ [v], List.mem_flatMap.mpr ⟨t, ht, List.mem_map.mpr ⟨v, mem_numsF.mpr ⟨of_decide_eq_true h1, of_decide_eq_true h2⟩, rfl⟩⟩, u, by rw [e, List.append_assoc]; rfl, Nat.succ.inj hl, h3⟩
theorem mem_statesF {s : List Int} {f : Fr} : s ∈ statesF f ↔ s.length = f.length ∧ inF f s = true := by
  unfold statesF
  rw [mem_statesFrom]
  constructor
  · rintro ⟨t, ht, u, e, hl, hi⟩
    rw [List.mem_singleton.mp ht, List.nil_append] at e
    rw [e]; exact ⟨hl, hi⟩
  · exact fun ⟨h1, h2⟩ => ⟨[], List.mem_singleton.mpr rfl, s, rfl, h1, h2⟩
theorem numsF_asc (lo hi : Int) : (numsF lo hi).Pairwise fun a b => a < b := by
  unfold numsF
  refine List.pairwise_map.mpr ?_
  exact List.Pairwise.imp (fun {a b} h => by omega) List.pairwise_lt_range
theorem lex_snoc {s t : List Int} {a b : Int} (h : s.length = t.length) : lexLt (s ++ [a]) (t ++ [b]) = (lexLt s t || (decide (s = t) && decide (a < b))) := by
  induction s generalizing t with
  | nil =>
    cases t with
    | nil =>
      show lexLt [a] [b] = _
      rw [lexLt, HT.lexLt_cons]
      by_cases e : a = b
      · rw [if_pos e, e, decide_eq_false (Int.lt_irrefl b)]; rfl
      · rw [if_neg e]; rfl
    | cons _ _ => cases h
  | cons x s ih =>
    cases t with
    | nil => cases h
    | cons y t =>
      have ih := ih (t := t) (Nat.succ.inj h)
      rw [List.cons_append, List.cons_append, lexLt, HT.lexLt_cons, HT.lexLt_cons]
      by_cases e : x = y
      · subst e
        rw [if_pos rfl, if_pos rfl]
        rw [show HT.lexLt = lexLt from rfl, ih]
        congr 1
        congr 1
        exact decide_eq_decide.mpr ⟨fun h => by rw [h], fun h => (List.cons.inj h).2⟩
      · rw [if_neg e, if_neg e, decide_eq_false (p := x :: s = y :: t) fun h => e (List.cons.inj h).1, Bool.false_and, Bool.or_false]
theorem statesFrom_asc : ∀ {f : Fr} {found : List (List Int)} {n : Nat}, (∀ s ∈ found, s.length = n) → Asc found → Asc (statesFrom found f)
  | [], _, _, _, h => h
  | r :: f, found, n, hl, h => by
    refine statesFrom_asc (f := f) (n := n + 1) (fun s hs => ?_) ?_
    · obtain ⟨t, ht, hs⟩ := List.mem_flatMap.mp hs
      obtain ⟨v, _, rfl⟩ := List.mem_map.mp hs
      rw [List.length_append, hl t ht]; rfl
    · unfold Asc
      rw [List.pairwise_flatMap]
      refine ⟨fun s hs => List.pairwise_map.mpr (List.Pairwise.imp (fun {a b} hab => ?_) (numsF_asc r.2.1 r.2.2)), ?_⟩
      · rw [lex_snoc rfl, decide_eq_true rfl, decide_eq_true hab, Bool.true_and, Bool.or_true]
      · refine List.Pairwise.imp_of_mem (fun {s t} hs ht hst x hx y hy => ?_) h
        obtain ⟨v, _, rfl⟩ := List.mem_map.mp hx
        obtain ⟨u, _, rfl⟩ := List.mem_map.mp hy
        rw [lex_snoc (by rw [hl s hs, hl t ht]), hst, Bool.true_or]
theorem statesF_asc (f : Fr) : Asc (statesF f) := statesFrom_asc (n := 0) (fun s hs => by rw [List.mem_singleton.mp hs]; rfl) (List.pairwise_singleton _ _)
theorem statesF_nodup (f : Fr) : (statesF f).Nodup := asc_nodup (statesF_asc f)
theorem FrOk.le60 {f : Fr} (h : FrOk f) : (statesF f).length ≤ 60 := by
  have z := h.size f.length
  rw [List.take_length] at z
  exact z
theorem FrOk.nm {f : Fr} (h : FrOk f) : FrNm f := ⟨Nat.le_trans h.few (by decide), h.named⟩
/-- ends that are states, not too many -/
structure EnOk (fr : Fr) (r : Ends) : Prop where
  inn : InS fr r
  few : (r.getD []).length ≤ 60
def GOk (fr : Fr) (g : Mean) : Prop := ∀ s ∈ statesF fr, EnOk fr (g s)
theorem bothE_ok {fr : Fr} {rs : List Ends} (hf : FrOk fr) (h : ∀ r ∈ rs, InS fr r) : EnOk fr (bothE rs) := by
  refine ⟨bothE_in h, ?_⟩
  have hi := bothE_in h
  unfold bothE at hi ⊢
  split
  · exact Nat.zero_le _
  · rename_i c
    rw [if_neg c] at hi
    refine Nat.le_trans (nodup_sub_len (asc_nodup (sortA_asc _)) fun s hs => ?_) hf.le60
    exact hi _ rfl s hs
/-! ### commands -/
mutual
inductive Cmd where
  | skip | abort | magic | set (ps : Prs) | spec (ns : List Str) (pre post : Cnd) | assert (c : Cnd) | assume (c : Cnd)
  | seq (a b : Cmd) | any (a b : Cmd) | var (r : Row) (b : Cmd) | ite (a : Alts) | doo (a : Alts)
inductive Alts where
  | nil | cons (g : Cnd) (c : Cmd) (r : Alts)
end
mutual
def Cmd.D : Cmd → D
  | .skip => .tup [.str "skip"]
  | .abort => .tup [.str "abort"]
  | .magic => .tup [.str "magic"]
  | .set ps => .tup [.str "set", prsD ps]
  | .spec ns pre post => spD' ns pre post
  | .assert c => .tup [.str "assert", c.D]
  | .assume c => .tup [.str "assume", c.D]
  | .seq a b => .tup [.str "then", a.D, b.D]
  | .any a b => .tup [.str "any", a.D, b.D]
  | .var r b => .tup [.str "var", .str r.1, .int r.2.1, .int r.2.2, b.D]
  | .ite a => .tup [.str "if", .tup a.Ds]
  | .doo a => .tup [.str "do", .tup a.Ds]
def Alts.Ds : Alts → List D
  | .nil => []
  | .cons g c r => .tup [g.D, c.D] :: r.Ds
end
mutual
def Cmd.depth : Cmd → Nat
  | .seq a b => Nat.max a.depth b.depth + 1
  | .any a b => Nat.max a.depth b.depth + 1
  | .var _ b => b.depth + 1
  | .ite a => a.depth + 1
  | .doo a => a.depth + 1
  | _ => 0
def Alts.depth : Alts → Nat
  | .nil => 0
  | .cons _ c r => Nat.max c.depth r.depth
end
abbrev Inner := List (Cnd × Mean)
def rowsA (fr : Fr) (inn : Inner) (s : List Int) : List Ends := (inn.filter fun p => holdsC fr s none p.1).map fun p => p.2 s
def ifE (fr : Fr) (inn : Inner) : Mean := fun s => if (rowsA fr inn s).isEmpty = true then none else bothE (rowsA fr inn s)
/-! ### rows of a table of ends -/
abbrev Tab := List (List Int × Ends)
def lk (m : Tab) (s : List Int) : Option Ends := (m.find? fun p => decide (p.1 = s)).map (·.2)
def putM (m : Tab) (s : List Int) (e : Ends) : Tab := if (m.any fun p => decide (p.1 = s)) = true then m.map (fun p => if p.1 = s then (p.1, e) else p) else m ++ [(s, e)]
def dropM (m : Tab) (s : List Int) : Tab := m.filter fun p => decide (p.1 ≠ s)
def tM (m : Tab) : List (List Int × D) := m.map fun p => (p.1, endsD p.2)
theorem valD_tM (s : List Int) : ∀ m : Tab, valD (tM m) s = (lk m s).map endsD
  | [] => rfl
  | p :: m => by
    by_cases c : p.1 = s
    · unfold valD lk tM
      rw [List.map_cons, List.find?_cons_of_pos (by simpa using c), List.find?_cons_of_pos (by simpa using c)]; rfl
    · have ih := valD_tM s m
      unfold valD lk tM at ih ⊢
      rw [List.map_cons, List.find?_cons_of_neg (by simpa using c), List.find?_cons_of_neg (by simpa using c), ih]
theorem putD_tM (m : Tab) (s : List Int) (e : Ends) : putD (tM m) s (endsD e) = tM (putM m s e) := by
  have ea : ((tM m).any fun kv => decide (kv.1 = s)) = m.any fun p => decide (p.1 = s) := by unfold tM; rw [List.any_map]; rfl
  unfold putD putM
  rw [ea]
  split
  · unfold tM
    rw [List.map_map, List.map_map]
    apply List.map_congr_left
    intro p _
    show (if p.1 = s then (p.1, endsD e) else (p.1, endsD p.2)) = (fun q : List Int × Ends => (q.1, endsD q.2)) (if p.1 = s then (p.1, e) else p)
    by_cases c : p.1 = s
    · rw [if_pos c, if_pos c]
    · rw [if_neg c, if_neg c]
  · unfold tM
    rw [List.map_append]; rfl
theorem dropD_tM (m : Tab) (s : List Int) : dropD (tM m) s = tM (dropM m s) := by
  unfold dropD dropM tM
  rw [List.filter_map]; rfl
theorem outO_cons {o : Own} {p : Addr} {d : D} (h : Fresh o p) : outO ((p, d) :: o) p = o := by
  unfold outO
  rw [List.filter_cons_of_neg (by simp)]
  refine List.filter_eq_self.mpr fun q hq => decide_eq_true fun e => h (by rw [← e]; exact List.mem_map_of_mem hq)
/-! ### if -/
section
variable {P : Program} {w : World} {K : PySem.W.Frag} {mg : Str → Option Value} {base : Heap} {f : Addr} {fd : FuncData}
def innD (fr : Fr) (inn : Inner) : D := .lst (inn.map fun p => .tup [p.1.D, tabD fr p.2])
structure InnOk (fr : Fr) (inn : Inner) (k : Nat) : Prop where
  cond : ∀ p ∈ inn, (∀ s ∈ statesF fr, COk fr s none p.1) ∧ p.1.depth ≤ k
  mean : ∀ p ∈ inn, GOk fr p.2
  few : inn.length ≤ 100
def RIf (k : Nat) : List D → Own → D → Own → Prop := fun ds o d o' => ∃ (fr : Fr) (inn : Inner), FrOk fr ∧ 1 ≤ fr.length ∧ InnOk fr inn k ∧ ds = [frD fr, innD fr inn] ∧ d = tabD fr (ifE fr inn) ∧ o' = o
theorem rowsA_in {fr : Fr} {inn : Inner} {k : Nat} (h : InnOk fr inn k) {s : List Int} (hs : s ∈ statesF fr) : ∀ r ∈ rowsA fr inn s, EnOk fr r := fun r hr => by
  obtain ⟨p, hp, rfl⟩ := List.mem_map.mp hr
  exact h.mean p (List.mem_filter.mp hp).1 s hs
theorem rowsA_len (fr : Fr) (inn : Inner) (s : List Int) : (rowsA fr inn s).length ≤ inn.length := by
  unfold rowsA
  rw [List.length_map]
  exact List.length_filter_le _ _
theorem rows_sum {fr : Fr} {rs : List Ends} (h : ∀ r ∈ rs, EnOk fr r) (hl : rs.length ≤ 1000) : (rs.map fun r => (r.getD []).length).sum ≤ 100000 :=
  Nat.le_trans (sum_le 60 _ fun r hr => (h r hr).few) (by omega)
end
end J
end

section
set_option Elab.async false
set_option maxHeartbeats 0
set_option linter.all false
set_option maxRecDepth 100000
/-! if_meant -/
namespace J
open PySem PySem.Spec PyProof.Rows L2
local macro_rules | `(tactic| walk_at "vis") => `(tactic| first | exact Or.inl rfl | exact Or.inr (Or.inl rfl) | exact Or.inr (Or.inr rfl))
local macro_rules | `(tactic| walk_at "loc") => `(tactic| first | exact Or.inl rfl | exact Or.inr rfl)
local macro_rules | `(tactic| walk_at "var") => `(tactic| first
  | exact re_v 0 rfl rfl (by walk_at "vis") | exact re_v 1 rfl rfl (by walk_at "vis") | exact re_v 2 rfl rfl (by walk_at "vis") | exact re_v 3 rfl rfl (by walk_at "vis")
  | exact re_v 4 rfl rfl (by walk_at "vis") | exact re_v 5 rfl rfl (by walk_at "vis") | exact re_v 6 rfl rfl (by walk_at "vis") | exact re_v 7 rfl rfl (by walk_at "vis")
  | exact re_v 8 rfl rfl (by walk_at "vis") | exact re_v 9 rfl rfl (by walk_at "vis") | exact re_v 10 rfl rfl (by walk_at "vis") | exact re_v 11 rfl rfl (by walk_at "vis")
  | exact re_v 12 rfl rfl (by walk_at "vis") | exact re_v 13 rfl rfl (by walk_at "vis") | exact re_v 14 rfl rfl (by walk_at "vis") | exact re_v 15 rfl rfl (by walk_at "vis")
  | exact re_v 16 rfl rfl (by walk_at "vis") | exact re_v 17 rfl rfl (by walk_at "vis") | exact re_v 18 rfl rfl (by walk_at "vis") | exact re_v 19 rfl rfl (by walk_at "vis"))
local macro_rules | `(tactic| walk_at "ix") => `(tactic| first | exact ix_tupD rfl | exact ix_lstD rfl | exact ix_wtD rfl)
local macro_rules | `(tactic| walk_at "len") => `(tactic| first | exact Nat.le_of_ble_eq_true rfl | assumption | (simp; done) | (simp; omega))
local macro_rules | `(tactic| walk_at "ra") => `(tactic| first | ((with_reducible show RA _ [] _ _ _ _); exact ra_nil) | ((with_reducible show RA _ (_ :: _) _ _ _ _); exact ra_cons (by walk_at "ev") (by walk_at "ra")))
local macro_rules | `(tactic| walk_at "bin") => `(tactic| first | exact bin_addI | exact bin_subI | exact bin_addT (by walk_at "len") | exact bin_addL (by walk_at "len"))
local macro_rules | `(tactic| walk_at "ev") => `(tactic| first
  | ((with_reducible show RE _ (Expr.Name _ _) _ _ _ _); walk_at "var")
  | ((with_reducible show RE _ (Expr.Constant _ _ _) _ _ _ _); first | exact re_int | exact re_str | exact re_bl | exact re_non)
  | ((with_reducible show RE _ (Expr.Tuple _ _ _) _ _ _ _); exact re_tup (by walk_at "ra") (by walk_at "len"))
  | ((with_reducible show RE _ (Expr.List _ _) _ _ _ _); exact re_lst (by walk_at "ra") (by walk_at "len"))
  | ((with_reducible show RE _ (Expr.Subscript _ _ _) _ _ _ _); exact re_sub (by walk_at "ev") (by walk_at "ev") (by walk_at "ix"))
  | ((with_reducible show RE _ (Expr.BinOp _ _ _ _) _ _ _ _); exact re_bin (by walk_at "ev") (by walk_at "ev") (by walk_at "bin"))
  | assumption)
theorem rs_eq {X : Cx} {st : Stmt} {γ : Sto} {o : Own} {out out' : Out} (h : RS X st γ o out') (e : out' = out) : RS X st γ o out := e ▸ h
theorem rb_eq {X : Cx} {st : List Stmt} {γ : Sto} {o : Own} {out out' : Out} (h : RB X st γ o out') (e : out' = out) : RB X st γ o out := e ▸ h
theorem re_oq {X : Cx} {e : Expr} {γ : Sto} {o o1 o2 : Own} {d : D} (h : RE X e γ o d o1) (he : o1 = o2) : RE X e γ o d o2 := he ▸ h
theorem putM_new {m : Tab} {s : List Int} {e : Ends} (h : s ∉ m.map (·.1)) : putM m s e = m ++ [(s, e)] := by
  unfold putM
  rw [if_neg]
  intro z
  obtain ⟨q, hq, e⟩ := List.any_eq_true.mp z
  exact h (by rw [← of_decide_eq_true e]; exact List.mem_map_of_mem hq)
/-- the first i rows of a table -/
def tabs (fr : Fr) (g : Mean) (i : Nat) : Tab := ((statesF fr).take i).map fun s => (s, g s)
theorem tabs_succ {fr : Fr} {g : Mean} {i : Nat} {s : List Int} (h : (statesF fr)[i]? = some s) : putM (tabs fr g i) s (g s) = tabs fr g (i + 1) := by
  have hn := statesF_nodup fr
  obtain ⟨hi, e⟩ := List.getElem?_eq_some_iff.mp h
  rw [putM_new]
  · unfold tabs
    rw [List.take_succ, h, List.map_append]
    rfl
  · unfold tabs
    rw [List.map_map]
    intro hm
    obtain ⟨t, ht, e2⟩ := List.mem_map.mp hm
    have e3 : t = s := e2
    subst e3
    obtain ⟨j, hj, e4⟩ := List.mem_take_iff_getElem.mp ht
    have hj' : j < i := by omega
    have hjl : j < (statesF fr).length := by omega
    have := (List.getElem_inj (h₀ := hjl) (h₁ := hi) hn).mp (by rw [e4, e])
    omega
theorem tabs_all (fr : Fr) (g : Mean) : stT (tM (tabs fr g (statesF fr).length)) = tabD fr g := by
  unfold tabs tabD tM
  rw [List.take_length, List.map_map]
  rfl
theorem tabs_len (fr : Fr) (g : Mean) (i : Nat) : (tM (tabs fr g i)).length ≤ (statesF fr).length := by
  unfold tM tabs
  rw [List.length_map, List.length_map, List.length_take]
  exact Nat.min_le_right _ _
section
variable {X : Cx} {γ : Sto} {o : Own} {a b : Expr} {pos : Pos}
/-- own[state], own a table -/
theorem re_tabAt {fr : Fr} {g : Mean} {s : List Int} {o1 o2 : Own} (hu : X.A.units + 1 < cLine) (ha : RE X a γ o (tabD fr g) o1) (hb : RE X b γ o1 (stD s) o2) (hs : s ∈ statesF fr) (hn : NoSl b := by exact fun _ _ => rfl) : RE X (.Subscript a b pos) γ o (endsD (g s)) o2 :=
  re_dget hu ha hb (by
    have z := gets_S (K := X.K) (o := o2) (m := (statesF fr).map fun s => (s, endsD (g s))) (s := s)
    rw [valD_tab (α := Unit) (fun s => endsD (g s)) hs] at z
    exact z) hn
end
section
variable {P : Program} {w : World} {K : PySem.W.Frag} {mg : Str → Option Value} {base : Heap} {f : Addr} {fd : FuncData}
theorem has_if_meant (F : Fun K "if_meant" "if_meant" s_if_meant f fd) (hm : mg "if_meant" = some (.ref f)) (B : Bi mg) (k : Nat) (h1 : Has P w K mg base "states_of" 1 1 RStates) (h2 : Has P w K mg base "holds" (k + 4) 4 (RHolds k)) (h3 : Has P w K mg base "both_ends" 1 1 RBoth) : Has P w K mg base "if_meant" (k + 5) 2 (RIf k) := by
  refine has_mk (k := k + 4) F sc_if_meant hm (F.binds fun _ _ _ _ _ _ us hl => match us, hl with | [_, _], _ => rfl) (by rintro _ _ _ _ ⟨fr, inn, _, _, _, rfl, _⟩; rfl) fun cdv A outer s0 H E ds o d o' hr hR => ?_
  obtain ⟨fr, inn, hfr, hd, hin, rfl, rfl, rfl⟩ := hR
  refine rb_consG (rsg_set 2 sc_if_meant.nd rfl (by walk_at "vis") reg_newT) fun γ' o1 hP => ?_
  obtain ⟨_, ⟨p, rfl, hf, rfl⟩, rfl⟩ := hP
  have h60 := hfr.le60
  have few := hin.few
  refine rb_cons (rs_for (statesF fr) stD (fun _ => [some (frD fr), some (innD fr inn), some (.adr p), none, none, none, none]) (fun i => (p, stT (tM (tabs fr (ifE fr inn) i))) :: o')
    (fun _ s => [some (frD fr), some (innD fr inn), some (.adr p), some (stD s), none, none, none]) [3] (fun i s => .nx [some (frD fr), some (innD fr inn), some (.adr p), some (stD s), some (.lst ((rowsA fr inn s).map endsD)), none, none] ((p, stT (tM (tabs fr (ifE fr inn) (i + 1)))) :: o')) rfl PassesOwn.never
    (ri_list (re_call h1 (hr.mono (by omega)) (by exact ra_cons (by walk_at "var") ra_nil) (by exact ⟨fr, hfr, rfl, rfl, rfl⟩) rfl)) rfl (fun i s hi => rg_name 3 sc_if_meant.nd rfl (by walk_at "loc")) (fun i s hi => ?_)
    (fun i s hi => ⟨_, .inl rfl, .cons _ (.cons _ (.cons _ (.drop _ (.drop _ (.cons _ (.cons _ .nil))))))⟩)) ?_
  · have hs := List.mem_of_getElem? hi
    have hl := statesF_len hs
    refine rb_cons (rs_setL (d := .lst ((rowsA fr inn s).map endsD)) (o1 := (p, stT (tM (tabs fr (ifE fr inn) i))) :: o') 4 sc_if_meant.nd rfl rfl (rl_eq (rl_lc [("guard", 5), ("own", 6)] inn (fun q => .tup [q.1.D, tabD fr q.2]) (fun q => [some (frD fr), some (innD fr inn), some (.adr p), some (stD s), none, some q.1.D, some (tabD fr q.2)]) [5, 6] (fun q => holdsC fr s none q.1) (fun q => endsD (q.2 s)) rfl sc_if_meant.nd (ri_list (by walk_at "var"))
      (blkOk_by (N := n_if_meant) (sc := defScope s_if_meant) (by decide +kernel)) (fun s1 H1 C cl fp q hq => ⟨rg_tup rfl (rgs_cons (rg_name 5 sc_if_meant.nd rfl (by walk_at "loc")) (rgs_cons (rg_name 6 sc_if_meant.nd rfl (by walk_at "loc")) rgs_nil)), ?_, fun _ => re_tabAt (J.Room.u1 hr) (by walk_at "var") (by walk_at "var") hs⟩) (by decide) (by omega)) (by unfold rowsA; rw [List.map_map]; rfl)) rfl) ?_
    · exact rts_one (rt_val (re_call h2 hr (by exact ra_cons (by walk_at "var") (ra_cons (by walk_at "var") (ra_cons re_non (ra_cons (by walk_at "var") ra_nil)))) (by exact ⟨fr, s, none, q.1, hfr.nm, hl, (hin.cond q hq).1 s hs, (hin.cond q hq).2, rfl, rfl, rfl⟩) rfl))
    · have hrow := rowsA_in hin hs
      have hlen := rowsA_len fr inn s
      refine rb_one (rs_eq (rs_dputS (d := endsD (ifE fr inn s)) (o1 := (p, stT (tM (tabs fr (ifE fr inn) i))) :: o') (o2 := (p, stT (tM (tabs fr (ifE fr inn) i))) :: o') (o3 := (p, stT (tM (tabs fr (ifE fr inn) i))) :: o') (J.Room.u1 hr) ?_ (by walk_at "var") (by walk_at "var") List.mem_cons_self (Nat.le_trans (tabs_len fr _ i) (by omega))) ?_)
      · refine re_ifB (rt_cm (by walk_at "var") (re_lst ra_nil (by decide)) (cmp_neNil (J.Room.u0 hr) .lst) (nomark _)) (fun e => ?_) fun e => ?_
        · refine re_eq (re_call h3 (hr.mono (by omega)) (by exact ra_cons (by walk_at "var") ra_nil) (by exact ⟨fr, rowsA fr inn s, hfr, hd, fun r hr => (hrow r hr).inn, rows_sum hrow (by omega), by omega, rfl, rfl, rfl⟩) rfl) ?_
          unfold ifE
          rw [if_neg]
          rw [List.isEmpty_map] at e
          simpa using e
        · refine re_eq re_non ?_
          unfold ifE
          rw [if_pos]
          · rfl
          · rw [List.isEmpty_map] at e
            simpa using e
      · rw [setO_cons hf, putD_tM, tabs_succ hi]
        rfl
  · rw [tabs_all]
    exact rb_one (rs_ret (re_oq (re_pubT (by walk_at "var") List.mem_cons_self) (outO_cons hf)))
end
end J
end

section
set_option Elab.async false
set_option maxHeartbeats 0
set_option linter.all false
set_option maxRecDepth 100000
/-! do_meant -/
namespace J
open PySem PySem.Spec PyProof.Rows L2
local macro_rules | `(tactic| walk_at "vis") => `(tactic| first | exact Or.inl rfl | exact Or.inr (Or.inl rfl) | exact Or.inr (Or.inr rfl))
local macro_rules | `(tactic| walk_at "loc") => `(tactic| first | exact Or.inl rfl | exact Or.inr rfl)
local macro_rules | `(tactic| walk_at "var") => `(tactic| first
  | exact re_v 0 rfl rfl (by walk_at "vis") | exact re_v 1 rfl rfl (by walk_at "vis") | exact re_v 2 rfl rfl (by walk_at "vis") | exact re_v 3 rfl rfl (by walk_at "vis")
  | exact re_v 4 rfl rfl (by walk_at "vis") | exact re_v 5 rfl rfl (by walk_at "vis") | exact re_v 6 rfl rfl (by walk_at "vis") | exact re_v 7 rfl rfl (by walk_at "vis")
  | exact re_v 8 rfl rfl (by walk_at "vis") | exact re_v 9 rfl rfl (by walk_at "vis") | exact re_v 10 rfl rfl (by walk_at "vis") | exact re_v 11 rfl rfl (by walk_at "vis")
  | exact re_v 12 rfl rfl (by walk_at "vis") | exact re_v 13 rfl rfl (by walk_at "vis") | exact re_v 14 rfl rfl (by walk_at "vis") | exact re_v 15 rfl rfl (by walk_at "vis")
  | exact re_v 16 rfl rfl (by walk_at "vis") | exact re_v 17 rfl rfl (by walk_at "vis") | exact re_v 18 rfl rfl (by walk_at "vis") | exact re_v 19 rfl rfl (by walk_at "vis"))
local macro_rules | `(tactic| walk_at "ix") => `(tactic| first | exact ix_tupD rfl | exact ix_lstD rfl | exact ix_wtD rfl)
local macro_rules | `(tactic| walk_at "len") => `(tactic| first | exact Nat.le_of_ble_eq_true rfl | assumption | (simp; done) | (simp; omega))
local macro_rules | `(tactic| walk_at "ra") => `(tactic| first | ((with_reducible show RA _ [] _ _ _ _); exact ra_nil) | ((with_reducible show RA _ (_ :: _) _ _ _ _); exact ra_cons (by walk_at "ev") (by walk_at "ra")))
local macro_rules | `(tactic| walk_at "bin") => `(tactic| first | exact bin_addI | exact bin_subI | exact bin_addT (by walk_at "len") | exact bin_addL (by walk_at "len"))
local macro_rules | `(tactic| walk_at "ev") => `(tactic| first
  | ((with_reducible show RE _ (Expr.Name _ _) _ _ _ _); walk_at "var")
  | ((with_reducible show RE _ (Expr.Constant _ _ _) _ _ _ _); first | exact re_int | exact re_str | exact re_bl | exact re_non)
  | ((with_reducible show RE _ (Expr.Tuple _ _ _) _ _ _ _); exact re_tup (by walk_at "ra") (by walk_at "len"))
  | ((with_reducible show RE _ (Expr.List _ _) _ _ _ _); exact re_lst (by walk_at "ra") (by walk_at "len"))
  | ((with_reducible show RE _ (Expr.Subscript _ _ _) _ _ _ _); exact re_sub (by walk_at "ev") (by walk_at "ev") (by walk_at "ix"))
  | ((with_reducible show RE _ (Expr.BinOp _ _ _ _) _ _ _ _); exact re_bin (by walk_at "ev") (by walk_at "ev") (by walk_at "bin"))
  | assumption)
theorem re_drop {X : Cx} {e : Expr} {γ : Sto} {o o1 o2 : Own} {d : D} (h : RE X e γ o d o1) (s : o2.Sublist o1) : RE X e γ o d o2 :=
  ⟨PE.imp h.p fun σ H Q ⟨Hb, F, w, st, q⟩ => ⟨Hb, F, w, st, fun v Hb1 H1 e1 w1 n1 => q v Hb1 H1 e1 (w1.drop s) n1⟩⟩
/-! ### the rounds -/
def lkE (m : Tab) (s : List Int) : Ends := (lk m s).getD none
def ableT (F L : Tab) : List (List Int) := (L.filter fun p => p.2.isSome && (p.2.getD []).all fun e => (lk F e).isSome).map (·.1)
def stepT (a : Tab × Tab) (s : List Int) : Tab × Tab := (putM a.1 s (bothE (((lkE a.2 s).getD []).map (lkE a.1))), dropM a.2 s)
def doRun : Nat → Tab × Tab → Tab
  | 0, a => a.1
  | n + 1, a => if (ableT a.1 a.2).isEmpty = true then a.1 else doRun n ((ableT a.1 a.2).foldl stepT a)
def fin1 (fr : Fr) (inn : Inner) (i : Nat) : Tab := (((statesF fr).take i).filter fun s => (rowsA fr inn s).isEmpty).map fun s => (s, some [s])
def lef1 (fr : Fr) (inn : Inner) (i : Nat) : Tab := (((statesF fr).take i).filter fun s => !(rowsA fr inn s).isEmpty).map fun s => (s, bothE (rowsA fr inn s))
def doE (fr : Fr) (inn : Inner) : Mean := fun s => lkE (doRun 60 (fin1 fr inn 60, lef1 fr inn 60)) s
theorem lk_put (m : Tab) (s t : List Int) (e : Ends) : lk (putM m s e) t = if s = t then some e else lk m t := by
  have base : ∀ m : Tab, lk (m.map fun p => if p.1 = s then (p.1, e) else p) t = if s = t then (lk m t).map (fun _ => e) else lk m t := by
    intro m
    induction m with
    | nil => unfold lk; split <;> rfl
    | cons p m ih =>
      have hk : (if p.1 = s then (p.1, e) else p).1 = p.1 := by split <;> rfl
      by_cases c : p.1 = t
      · have e1 : lk ((p :: m).map fun p => if p.1 = s then (p.1, e) else p) t = some (if p.1 = s then (p.1, e) else p).2 := by
          unfold lk
          rw [List.map_cons, List.find?_cons_of_pos (by rw [hk]; simpa using c)]; rfl
        have e2 : lk (p :: m) t = some p.2 := by unfold lk; rw [List.find?_cons_of_pos (by simpa using c)]; rfl
        rw [e1, e2]
        by_cases q : s = t
        · rw [if_pos q, if_pos (c.trans q.symm)]; rfl
        · rw [if_neg q, if_neg (fun h => q (h.symm.trans c))]
      · have e1 : lk ((p :: m).map fun p => if p.1 = s then (p.1, e) else p) t = lk (m.map fun p => if p.1 = s then (p.1, e) else p) t := by
          unfold lk
          rw [List.map_cons, List.find?_cons_of_neg (by rw [hk]; simpa using c)]
        have e2 : lk (p :: m) t = lk m t := by unfold lk; rw [List.find?_cons_of_neg (by simpa using c)]
        rw [e1, e2, ih]
  have any : (m.any fun p => decide (p.1 = s)) = (lk m s).isSome := by
    induction m with
    | nil => rfl
    | cons p m ih =>
      rw [List.any_cons, ih]
      by_cases c : p.1 = s
      · rw [decide_eq_true c]
        unfold lk
        rw [List.find?_cons_of_pos (by simpa using c)]; rfl
      · rw [decide_eq_false c]
        unfold lk
        rw [List.find?_cons_of_neg (by simpa using c)]; rfl
  unfold putM
  split
  · rename_i h
    rw [base]
    by_cases c : s = t
    · subst c
      rw [if_pos rfl, if_pos rfl]
      rw [any] at h
      cases q : lk m s with
      | none => rw [q] at h; cases h
      | some _ => rfl
    · rw [if_neg c, if_neg c]
  · rename_i h
    rw [any] at h
    have app : lk (m ++ [(s, e)]) t = (lk m t).or (if s = t then some e else none) := by
      unfold lk
      rw [List.find?_append]
      cases m.find? fun p => decide (p.1 = t) with
      | none =>
        by_cases c : s = t
        · rw [if_pos c, List.find?_cons_of_pos (by simpa using c)]; rfl
        · rw [if_neg c, List.find?_cons_of_neg (by simpa using c)]; rfl
      | some _ => rfl
    rw [app]
    by_cases c : s = t
    · subst c
      rw [if_pos rfl, if_pos rfl]
      cases q : lk m s with
      | none => rfl
      | some _ => rw [q] at h; exact absurd rfl h
    · rw [if_neg c, if_neg c]
      cases lk m t <;> rfl
theorem lk_drop (m : Tab) (s t : List Int) (h : s ≠ t) : lk (dropM m s) t = lk m t := by
  induction m with
  | nil => rfl
  | cons p m ih =>
    by_cases c : p.1 = s
    · have e1 : dropM (p :: m) s = dropM m s := List.filter_cons_of_neg (by simp [c])
      have e2 : lk (p :: m) t = lk m t := by unfold lk; rw [List.find?_cons_of_neg (by simp; rw [c]; exact h)]
      rw [e1, e2, ih]
    · have e1 : dropM (p :: m) s = p :: dropM m s := List.filter_cons_of_pos (by simp [c])
      rw [e1]
      by_cases d : p.1 = t
      · unfold lk
        rw [List.find?_cons_of_pos (by simpa using d), List.find?_cons_of_pos (by simpa using d)]
      · have a1 : lk (p :: dropM m s) t = lk (dropM m s) t := by unfold lk; rw [List.find?_cons_of_neg (by simpa using d)]
        have a2 : lk (p :: m) t = lk m t := by unfold lk; rw [List.find?_cons_of_neg (by simpa using d)]
        rw [a1, a2, ih]
theorem lk_mem {m : Tab} {s : List Int} {e : Ends} (h : lk m s = some e) : (s, e) ∈ m := by
  unfold lk at h
  obtain ⟨p, hp, rfl⟩ := Option.map_eq_some_iff.mp h
  have h1 := List.find?_some hp
  have h2 := List.mem_of_find?_eq_some hp
  rw [← of_decide_eq_true h1]
  exact h2
theorem lk_of_mem {m : Tab} {s : List Int} {e : Ends} (hn : (m.map (·.1)).Nodup) (h : (s, e) ∈ m) : lk m s = some e := by
  induction m with
  | nil => cases h
  | cons p m ih =>
    rw [List.map_cons, List.nodup_cons] at hn
    by_cases c : p.1 = s
    · rcases List.mem_cons.mp h with q | q
      · subst q
        unfold lk
        rw [List.find?_cons_of_pos (by simp)]; rfl
      · exact absurd (by rw [c]; exact List.mem_map_of_mem (f := (·.1)) q) hn.1
    · have h' : (s, e) ∈ m := (List.mem_cons.mp h).resolve_left fun q => c (by rw [← q])
      have ih := ih hn.2 h'
      unfold lk at ih ⊢
      rw [List.find?_cons_of_neg (by simpa using c), ih]
theorem putM_len (m : Tab) (s : List Int) (e : Ends) : (putM m s e).length ≤ m.length + 1 := by
  unfold putM
  split
  · rw [List.length_map]; exact Nat.le_succ _
  · rw [List.length_append]; exact Nat.le_refl _
theorem dropM_len {m : Tab} {s : List Int} {e : Ends} (h : (s, e) ∈ m) : (dropM m s).length < m.length := by
  unfold dropM
  exact List.length_filter_lt_length_iff_exists.mpr ⟨_, h, by simp⟩
/-- what holds of the two tables in every round -/
structure DoOk (fr : Fr) (a : Tab × Tab) : Prop where
  fin : ∀ p ∈ a.1, EnOk fr p.2
  lef : ∀ p ∈ a.2, EnOk fr p.2
  key : ∀ p ∈ a.2, p.1 ∈ statesF fr
  one : (a.2.map (·.1)).Nodup
  few : a.1.length + a.2.length ≤ 60
theorem lkE_ok {fr : Fr} {m : Tab} (h : ∀ p ∈ m, EnOk fr p.2) (s : List Int) : EnOk fr (lkE m s) := by
  unfold lkE
  cases q : lk m s with
  | none => exact ⟨(fun L e => nomatch e), Nat.zero_le _⟩
  | some e => exact h _ (lk_mem q)
theorem step_ok {fr : Fr} {a : Tab × Tab} {s : List Int} {e : Ends} (hf : FrOk fr) (h : DoOk fr a) (hs : (s, e) ∈ a.2) : DoOk fr (stepT a s) := by
  refine ⟨fun p hp => ?_, fun p hp => h.lef p (List.mem_filter.mp hp).1, fun p hp => h.key p (List.mem_filter.mp hp).1, h.one.sublist (List.filter_sublist.map _), ?_⟩
  · have ok : EnOk fr (bothE (((lkE a.2 s).getD []).map (lkE a.1))) := bothE_ok hf fun r hr => by
      obtain ⟨t, _, rfl⟩ := List.mem_map.mp hr
      exact (lkE_ok h.fin t).inn
    have hp' : p ∈ putM a.1 s (bothE (((lkE a.2 s).getD []).map (lkE a.1))) := hp
    unfold putM at hp'
    split at hp'
    · obtain ⟨q, hq, rfl⟩ := List.mem_map.mp hp'
      split
      · exact ok
      · exact h.fin q hq
    · rcases List.mem_append.mp hp' with q | q
      · exact h.fin p q
      · rw [List.mem_singleton.mp q]; exact ok
  · have h1 := putM_len a.1 s (bothE (((lkE a.2 s).getD []).map (lkE a.1)))
    have h2 := dropM_len hs
    have h3 := h.few
    show (putM a.1 s _).length + (dropM a.2 s).length ≤ 60
    omega
/-- the rounds of one round: what is able stays so -/
structure AbleOk (a : Tab × Tab) (rest : List (List Int)) : Prop where
  nd : rest.Nodup
  at' : ∀ s ∈ rest, ∃ L, lk a.2 s = some (some L) ∧ ∀ e ∈ L, (lk a.1 e).isSome = true
theorem able_step {a : Tab × Tab} {s : List Int} {rest : List (List Int)} (h : AbleOk a (s :: rest)) : AbleOk (stepT a s) rest := by
  obtain ⟨h1, h2⟩ := List.nodup_cons.mp h.nd
  refine ⟨h2, fun t ht => ?_⟩
  obtain ⟨L, hL, hall⟩ := h.at' t (List.mem_cons_of_mem _ ht)
  refine ⟨L, (lk_drop a.2 s t fun e => h1 (by rw [e]; exact ht)).trans hL, fun e he => ?_⟩
  show (lk (putM a.1 s _) e).isSome = true
  rw [lk_put]
  split
  · rfl
  · exact hall e he
theorem ableT_ok {fr : Fr} {a : Tab × Tab} (h : DoOk fr a) : AbleOk a (ableT a.1 a.2) := by
  refine ⟨h.one.sublist (List.filter_sublist.map _), fun s hs => ?_⟩
  obtain ⟨p, hp, rfl⟩ := List.mem_map.mp hs
  obtain ⟨h1, h2⟩ := List.mem_filter.mp hp
  rw [Bool.and_eq_true] at h2
  obtain ⟨k, e⟩ := p
  cases e with
  | none => exact absurd h2.1 (by simp)
  | some L => exact ⟨L, lk_of_mem h.one h1, fun e he => List.all_eq_true.mp h2.2 e he⟩
theorem steps_ok {fr : Fr} (hf : FrOk fr) : ∀ {rest : List (List Int)} {a : Tab × Tab}, DoOk fr a → AbleOk a rest → DoOk fr (rest.foldl stepT a) ∧ (rest.foldl stepT a).2.length + rest.length ≤ a.2.length
  | [], a, h, _ => ⟨h, Nat.le_refl _⟩
  | s :: rest, a, h, ab => by
    obtain ⟨L, hL, _⟩ := ab.at' s List.mem_cons_self
    have hm := lk_mem hL
    obtain ⟨h1, h2⟩ := steps_ok hf (step_ok hf h hm) (able_step ab)
    refine ⟨h1, ?_⟩
    have h3 := dropM_len hm
    have h4 : (stepT a s).2.length < a.2.length := h3
    show (rest.foldl stepT (stepT a s)).2.length + (rest.length + 1) ≤ _
    omega
theorem able_nth {a : Tab × Tab} : ∀ {rest : List (List Int)} {i : Nat} {s : List Int}, AbleOk a rest → rest[i]? = some s → AbleOk ((rest.take i).foldl stepT a) (rest.drop i)
  | _, 0, _, h, _ => h
  | [], i + 1, _, h, e => by simp at e
  | t :: rest, i + 1, s, h, e => able_nth (a := stepT a t) (able_step h) (by simpa using e)
theorem fold_succ {a : Tab × Tab} {rest : List (List Int)} {i : Nat} {s : List Int} (h : rest[i]? = some s) : (rest.take (i + 1)).foldl stepT a = stepT ((rest.take i).foldl stepT a) s := by
  rw [List.take_succ, h, List.foldl_append]
  rfl
end J
end

section
set_option Elab.async false
set_option maxHeartbeats 0
set_option linter.all false
set_option maxRecDepth 100000
/-! do_meant, the walk -/
namespace J
open PySem PySem.Spec PyProof.Rows L2
local macro_rules | `(tactic| walk_at "vis") => `(tactic| first | exact Or.inl rfl | exact Or.inr (Or.inl rfl) | exact Or.inr (Or.inr rfl))
local macro_rules | `(tactic| walk_at "loc") => `(tactic| first | exact Or.inl rfl | exact Or.inr rfl)
local macro_rules | `(tactic| walk_at "var") => `(tactic| first
  | exact re_v 0 rfl rfl (by walk_at "vis") | exact re_v 1 rfl rfl (by walk_at "vis") | exact re_v 2 rfl rfl (by walk_at "vis") | exact re_v 3 rfl rfl (by walk_at "vis")
  | exact re_v 4 rfl rfl (by walk_at "vis") | exact re_v 5 rfl rfl (by walk_at "vis") | exact re_v 6 rfl rfl (by walk_at "vis") | exact re_v 7 rfl rfl (by walk_at "vis")
  | exact re_v 8 rfl rfl (by walk_at "vis") | exact re_v 9 rfl rfl (by walk_at "vis") | exact re_v 10 rfl rfl (by walk_at "vis") | exact re_v 11 rfl rfl (by walk_at "vis")
  | exact re_v 12 rfl rfl (by walk_at "vis") | exact re_v 13 rfl rfl (by walk_at "vis") | exact re_v 14 rfl rfl (by walk_at "vis") | exact re_v 15 rfl rfl (by walk_at "vis")
  | exact re_v 16 rfl rfl (by walk_at "vis") | exact re_v 17 rfl rfl (by walk_at "vis") | exact re_v 18 rfl rfl (by walk_at "vis") | exact re_v 19 rfl rfl (by walk_at "vis"))
local macro_rules | `(tactic| walk_at "ix") => `(tactic| first | exact ix_tupD rfl | exact ix_lstD rfl | exact ix_wtD rfl)
local macro_rules | `(tactic| walk_at "len") => `(tactic| first | exact Nat.le_of_ble_eq_true rfl | assumption | (simp; done) | (simp; omega))
local macro_rules | `(tactic| walk_at "ra") => `(tactic| first | ((with_reducible show RA _ [] _ _ _ _); exact ra_nil) | ((with_reducible show RA _ (_ :: _) _ _ _ _); exact ra_cons (by walk_at "ev") (by walk_at "ra")))
local macro_rules | `(tactic| walk_at "bin") => `(tactic| first | exact bin_addI | exact bin_subI | exact bin_addT (by walk_at "len") | exact bin_addL (by walk_at "len"))
local macro_rules | `(tactic| walk_at "ev") => `(tactic| first
  | ((with_reducible show RE _ (Expr.Name _ _) _ _ _ _); walk_at "var")
  | ((with_reducible show RE _ (Expr.Constant _ _ _) _ _ _ _); first | exact re_int | exact re_str | exact re_bl | exact re_non)
  | ((with_reducible show RE _ (Expr.Tuple _ _ _) _ _ _ _); exact re_tup (by walk_at "ra") (by walk_at "len"))
  | ((with_reducible show RE _ (Expr.List _ _) _ _ _ _); exact re_lst (by walk_at "ra") (by walk_at "len"))
  | ((with_reducible show RE _ (Expr.Subscript _ _ _) _ _ _ _); exact re_sub (by walk_at "ev") (by walk_at "ev") (by walk_at "ix"))
  | ((with_reducible show RE _ (Expr.BinOp _ _ _ _) _ _ _ _); exact re_bin (by walk_at "ev") (by walk_at "ev") (by walk_at "bin"))
  | assumption)
theorem not_take {α : Type} {L : List α} (hn : L.Nodup) {i : Nat} {s : α} (h : L[i]? = some s) : s ∉ L.take i := fun hm => by
  obtain ⟨j, hj, e4⟩ := List.mem_take_iff_getElem.mp hm
  obtain ⟨hi, e⟩ := List.getElem?_eq_some_iff.mp h
  have hjl : j < L.length := by omega
  have := (List.getElem_inj (h₀ := hjl) (h₁ := hi) hn).mp (by rw [e4, e])
  omega
theorem rows_not {fr : Fr} {b : List Int → Bool} {g : Mean} {i : Nat} {s : List Int} (h : (statesF fr)[i]? = some s) : s ∉ ((((statesF fr).take i).filter b).map fun s => (s, g s)).map (·.1) := fun hm => by
  rw [List.map_map] at hm
  obtain ⟨t, ht, e2⟩ := List.mem_map.mp hm
  have e3 : t = s := e2
  subst e3
  exact not_take (statesF_nodup fr) h (List.mem_filter.mp ht).1
theorem take_one {fr : Fr} {i : Nat} {s : List Int} (h : (statesF fr)[i]? = some s) (b : List Int → Bool) (g : Mean) : (((statesF fr).take (i + 1)).filter b).map (fun s => (s, g s)) = (((statesF fr).take i).filter b).map (fun s => (s, g s)) ++ (if b s = true then [(s, g s)] else []) := by
  rw [List.take_succ, h]
  show ((((statesF fr).take i) ++ [s]).filter b).map _ = _
  rw [List.filter_append, List.map_append]
  congr 1
  by_cases c : b s = true
  · rw [if_pos c, List.filter_cons_of_pos c]; rfl
  · rw [if_neg c, List.filter_cons_of_neg c]; rfl
theorem fin1_succ {fr : Fr} {inn : Inner} {i : Nat} {s : List Int} (h : (statesF fr)[i]? = some s) : fin1 fr inn (i + 1) = if (rowsA fr inn s).isEmpty = true then putM (fin1 fr inn i) s (some [s]) else fin1 fr inn i := by
  have z := take_one h (fun s => (rowsA fr inn s).isEmpty) (fun s => some [s])
  show (((statesF fr).take (i + 1)).filter fun s => (rowsA fr inn s).isEmpty).map (fun s => (s, some [s])) = _
  rw [z]
  by_cases c : (rowsA fr inn s).isEmpty = true
  · rw [if_pos c, if_pos c, putM_new (m := fin1 fr inn i) (rows_not (g := fun s => some [s]) h)]
    rfl
  · rw [if_neg c, if_neg c, List.append_nil]
    rfl
theorem lef1_succ {fr : Fr} {inn : Inner} {i : Nat} {s : List Int} (h : (statesF fr)[i]? = some s) : lef1 fr inn (i + 1) = if (rowsA fr inn s).isEmpty = true then lef1 fr inn i else putM (lef1 fr inn i) s (bothE (rowsA fr inn s)) := by
  have z := take_one h (fun s => !(rowsA fr inn s).isEmpty) (fun s => bothE (rowsA fr inn s))
  show (((statesF fr).take (i + 1)).filter fun s => !(rowsA fr inn s).isEmpty).map (fun s => (s, bothE (rowsA fr inn s))) = _
  rw [z]
  by_cases c : (rowsA fr inn s).isEmpty = true
  · rw [if_pos c, if_neg (by rw [c]; decide), List.append_nil]
    rfl
  · rw [if_neg c, if_pos (by simpa using c), putM_new (m := lef1 fr inn i) (rows_not (g := fun s => bothE (rowsA fr inn s)) h)]
    rfl
theorem take60 {fr : Fr} (h : (statesF fr).length ≤ 60) (inn : Inner) : fin1 fr inn (statesF fr).length = fin1 fr inn 60 ∧ lef1 fr inn (statesF fr).length = lef1 fr inn 60 := by
  unfold fin1 lef1
  rw [List.take_length, List.take_of_length_le h]
  exact ⟨rfl, rfl⟩
theorem filter_two {α : Type} (b : α → Bool) : ∀ l : List α, (l.filter b).length + (l.filter fun x => !b x).length = l.length
  | [] => rfl
  | x :: l => by
    have ih := filter_two b l
    cases c : b x with
    | true => rw [List.filter_cons_of_pos c, List.filter_cons_of_neg (by rw [c]; decide), List.length_cons, List.length_cons]; omega
    | false => rw [List.filter_cons_of_neg (by rw [c]; decide), List.filter_cons_of_pos (by rw [c]; rfl), List.length_cons, List.length_cons]; omega
theorem do_start {fr : Fr} {inn : Inner} {k : Nat} (hf : FrOk fr) (h : InnOk fr inn k) : DoOk fr (fin1 fr inn 60, lef1 fr inn 60) := by
  have h60 := hf.le60
  have tk : (statesF fr).take 60 = statesF fr := List.take_of_length_le h60
  refine ⟨fun p hp => ?_, fun p hp => ?_, fun p hp => ?_, ?_, ?_⟩
  · obtain ⟨s, hs, rfl⟩ := List.mem_map.mp hp
    have hs := (List.mem_filter.mp hs).1
    rw [tk] at hs
    exact ⟨fun L e t ht => by cases e; rw [List.mem_singleton.mp ht]; exact hs, by show 1 ≤ 60; decide⟩
  · obtain ⟨s, hs, rfl⟩ := List.mem_map.mp hp
    have hs := (List.mem_filter.mp hs).1
    rw [tk] at hs
    exact bothE_ok hf fun r hr => (rowsA_in h hs r hr).inn
  · obtain ⟨s, hs, rfl⟩ := List.mem_map.mp hp
    have hs := (List.mem_filter.mp hs).1
    rw [tk] at hs
    exact hs
  · show ((lef1 fr inn 60).map (·.1)).Nodup
    unfold lef1
    rw [List.map_map, tk]
    have e : ((fun x : List Int × Ends => x.1) ∘ fun s => (s, bothE (rowsA fr inn s))) = id := rfl
    rw [e, List.map_id]
    exact (statesF_nodup fr).sublist List.filter_sublist
  · show (fin1 fr inn 60).length + (lef1 fr inn 60).length ≤ 60
    unfold fin1 lef1
    rw [List.length_map, List.length_map, tk, filter_two]
    exact h60
section
variable {P : Program} {w : World} {K : PySem.W.Frag} {mg : Str → Option Value} {base : Heap} {f : Addr} {fd : FuncData}
def RDo (k : Nat) : List D → Own → D → Own → Prop := fun ds o d o' => ∃ (fr : Fr) (inn : Inner), FrOk fr ∧ 1 ≤ fr.length ∧ InnOk fr inn k ∧ ds = [frD fr, innD fr inn] ∧ d = tabD fr (doE fr inn) ∧ o' = o
theorem gets_oM {K : PySem.W.Frag} {o : Own} {p : Addr} {m : Tab} {s : List Int} (hp : (p, stT (tM m)) ∈ o) : Gets K o (.adr p) (stD s) ((lk m s).map endsD) := by
  have z := gets_oS (K := K) (s := s) hp
  rw [valD_tM] at z
  exact z
theorem has_do_meant (F : Fun K "do_meant" "do_meant" s_do_meant f fd) (hm : mg "do_meant" = some (.ref f)) (B : Bi mg) (k : Nat) (h1 : Has P w K mg base "states_of" 1 1 RStates) (h2 : Has P w K mg base "holds" (k + 4) 4 (RHolds k)) (h3 : Has P w K mg base "both_ends" 1 1 RBoth) : Has P w K mg base "do_meant" (k + 5) 2 (RDo k) := by
  refine has_mk (k := k + 4) F sc_do_meant hm (F.binds fun _ _ _ _ _ _ us hl => match us, hl with | [_, _], _ => rfl) (by rintro _ _ _ _ ⟨fr, inn, _, _, _, rfl, _⟩; rfl) fun cdv A outer s0 H E ds o d o' hr hR => ?_
  obtain ⟨fr, inn, hfr, hd, hin, rfl, rfl, rfl⟩ := hR
  have h60 := hfr.le60
  have few := hin.few
  refine rb_consG (rsg_unp (reg_tup (rag_cons reg_newT (fun d o1 _ => rag_cons (reg_newT (o := o1)) (fun _ _ _ => rag_nil))) ?_) (fun d => match d with | .tup [x, y] => [some (frD fr), some (innD fr inn), some x, some y, none, none, none, none, none, none] | _ => []) (ix := [2, 3]) fun d o1 hP => ?_) fun γ' o1 hP => ?_
  · rintro ds o1 ⟨d1, o2, ds', _, ⟨d2, o3, ds'', _, ⟨rfl, _⟩, rfl⟩, rfl⟩
    exact Nat.le_of_ble_eq_true rfl
  · obtain ⟨ds, rfl, d1, o2, ds', _, ⟨d2, o3, ds'', _, ⟨rfl, _⟩, rfl⟩, rfl⟩ := hP
    exact rg_tup rfl (rgs_cons (rg_name 2 sc_do_meant.nd rfl (by walk_at "loc")) (rgs_cons (rg_name 3 sc_do_meant.nd rfl (by walk_at "loc")) rgs_nil))
  obtain ⟨_, ⟨ds, rfl, d1, o2, ds', ⟨p, rfl, hf, rfl⟩, ⟨d2, o3, ds'', ⟨q, rfl, hf2, rfl⟩, ⟨rfl, rfl⟩, rfl⟩, rfl⟩, rfl⟩ := hP
  have hqp : q ≠ p := fun e => hf2 (by rw [e]; exact List.mem_cons_self)
  have hq : Fresh o' q := fun h => hf2 (List.mem_cons_of_mem _ h)
  have sq : ∀ L F' L', setO ((q, stT (tM L)) :: (p, stT (tM F')) :: o') q (stT (tM L')) = (q, stT (tM L')) :: (p, stT (tM F')) :: o' := fun _ _ _ => setO_cons hf2
  have sp : ∀ L F' G', setO ((q, stT (tM L)) :: (p, stT (tM F')) :: o') p (stT (tM G')) = (q, stT (tM L)) :: (p, stT (tM G')) :: o' := fun _ _ _ => by rw [setO_cons_ne hqp, setO_cons hf]
  have mq : ∀ L F', (q, stT (tM L)) ∈ (q, stT (tM L)) :: (p, stT (tM F')) :: o' := fun _ _ => List.mem_cons_self
  have mp : ∀ L F', (p, stT (tM F')) ∈ (q, stT (tM L)) :: (p, stT (tM F')) :: o' := fun _ _ => List.mem_cons_of_mem _ List.mem_cons_self
  refine rb_cons (γ1 := [some (frD fr), some (innD fr inn), some (.adr p), some (.adr q), none, none, none, none, none, none]) (o1 := (q, stT (tM (lef1 fr inn 60))) :: (p, stT (tM (fin1 fr inn 60))) :: o') (rs_eq (rs_for (statesF fr) stD (fun _ => [some (frD fr), some (innD fr inn), some (.adr p), some (.adr q), none, none, none, none, none, none]) (fun i => (q, stT (tM (lef1 fr inn i))) :: (p, stT (tM (fin1 fr inn i))) :: o')
    (fun _ s => [some (frD fr), some (innD fr inn), some (.adr p), some (.adr q), some (stD s), none, none, none, none, none]) [4] (fun i s => .nx [some (frD fr), some (innD fr inn), some (.adr p), some (.adr q), some (stD s), some (.lst ((rowsA fr inn s).map endsD)), none, none, none, none] ((q, stT (tM (lef1 fr inn (i + 1)))) :: (p, stT (tM (fin1 fr inn (i + 1)))) :: o')) rfl PassesOwn.never
    (ri_list (re_call h1 (hr.mono (by omega)) (by exact ra_cons (by walk_at "var") ra_nil) (by exact ⟨fr, hfr, rfl, rfl, rfl⟩) rfl)) rfl (fun i s hi => rg_name 4 sc_do_meant.nd rfl (by walk_at "loc")) (fun i s hi => ?_)
    (fun i s hi => ⟨_, .inl rfl, .cons _ (.cons _ (.cons _ (.cons _ (.drop _ (.drop _ (.cons _ (.cons _ (.cons _ (.cons _ .nil)))))))))⟩)) (by rw [(take60 h60 inn).1, (take60 h60 inn).2])) ?_
  · have hs := List.mem_of_getElem? hi
    have hl := statesF_len hs
    have hrow := rowsA_in hin hs
    have hlen := rowsA_len fr inn s
    refine rb_cons (rs_setL (d := .lst ((rowsA fr inn s).map endsD)) (o1 := (q, stT (tM (lef1 fr inn i))) :: (p, stT (tM (fin1 fr inn i))) :: o') 5 sc_do_meant.nd rfl rfl (rl_eq (rl_lc [("guard", 7), ("own", 8)] inn (fun q => .tup [q.1.D, tabD fr q.2]) (fun v => [some (frD fr), some (innD fr inn), some (.adr p), some (.adr q), some (stD s), none, none, some v.1.D, some (tabD fr v.2), none]) [7, 8] (fun q => holdsC fr s none q.1) (fun q => endsD (q.2 s)) rfl sc_do_meant.nd (ri_list (by walk_at "var"))
      (blkOk_by (N := n_do_meant) (sc := defScope s_do_meant) (by decide +kernel)) (fun s1 H1 C cl fp v hv => ⟨rg_tup rfl (rgs_cons (rg_name 7 sc_do_meant.nd rfl (by walk_at "loc")) (rgs_cons (rg_name 8 sc_do_meant.nd rfl (by walk_at "loc")) rgs_nil)), ?_, fun _ => re_tabAt (J.Room.u1 hr) (by walk_at "var") (by walk_at "var") hs⟩) (by decide) (by omega)) (by unfold rowsA; rw [List.map_map]; rfl)) rfl) ?_
    · exact rts_one (rt_val (re_call h2 hr (by exact ra_cons (by walk_at "var") (ra_cons (by walk_at "var") (ra_cons re_non (ra_cons (by walk_at "var") ra_nil)))) (by exact ⟨fr, s, none, v.1, hfr.nm, hl, (hin.cond v hv).1 s hs, (hin.cond v hv).2, rfl, rfl, rfl⟩) rfl))
    · have lf : (tM (fin1 fr inn i)).length ≤ 100000 := by
        unfold tM fin1
        rw [List.length_map, List.length_map]
        refine Nat.le_trans (List.length_filter_le _ _) ?_
        rw [List.length_take]
        omega
      have ll : (tM (lef1 fr inn i)).length ≤ 100000 := by
        unfold tM lef1
        rw [List.length_map, List.length_map]
        refine Nat.le_trans (List.length_filter_le _ _) ?_
        rw [List.length_take]
        omega
      refine rb_one (rs_ifB (rt_cm (by walk_at "var") (re_lst ra_nil (by decide)) (cmp_eqNil (J.Room.u0 hr) .lst) (nomark _)) (fun e => ?_) fun e => ?_)
      · rw [List.isEmpty_map] at e
        refine rb_one (rs_eq (rs_dputS (d := endsD (some [s])) (J.Room.u1 hr) (re_tup (ra_cons (by walk_at "var") ra_nil) (by walk_at "len")) (by walk_at "var") (by walk_at "var") (mp _ _) lf) ?_)
        rw [putD_tM, sp, fin1_succ hi, if_pos e, lef1_succ hi, if_pos e]
        rfl
      · rw [List.isEmpty_map] at e
        refine rb_one (rs_eq (rs_dputS (d := endsD (bothE (rowsA fr inn s))) (J.Room.u1 hr) (re_call h3 (hr.mono (by omega)) (by exact ra_cons (by walk_at "var") ra_nil) (by exact ⟨fr, rowsA fr inn s, hfr, hd, fun r hr => (hrow r hr).inn, rows_sum hrow (by omega), by omega, rfl, rfl, rfl⟩) rfl) (by walk_at "var") (by walk_at "var") (mq _ _) ll) ?_)
        rw [putD_tM, sq, fin1_succ hi, if_neg (by rw [e]; decide), lef1_succ hi, if_neg (by rw [e]; decide)]
        rfl
  · have st0 := do_start hfr hin
    refine rb_one (rs_while (ι := Tab × Tab) (fun m a => DoOk fr a ∧ a.2.length ≤ m ∧ doRun m a = doRun 60 (fin1 fr inn 60, lef1 fr inn 60)) (fun _ => [some (frD fr), some (innD fr inn), some (.adr p), some (.adr q), none, none, none, none, none, none]) (fun a => (q, stT (tM a.2)) :: (p, stT (tM a.1)) :: o') (fun _ => true) (fun a => (q, stT (tM a.2)) :: (p, stT (tM a.1)) :: o')
      (fun a => if (ableT a.1 a.2).isEmpty = true then .rt (tabD fr (lkE a.1)) o' else .nx [some (frD fr), some (innD fr inn), some (.adr p), some (.adr q), none, none, some (.lst ((ableT a.1 a.2).map stD)), none, none, none] ((q, stT (tM ((ableT a.1 a.2).foldl stepT a).2)) :: (p, stT (tM ((ableT a.1 a.2).foldl stepT a).1)) :: o'))
      60 (fin1 fr inn 60, lef1 fr inn 60) PassesOwn.never ⟨st0, by have := st0.few; show (lef1 fr inn 60).length ≤ 60; have h' : (fin1 fr inn 60).length + (lef1 fr inn 60).length ≤ 60 := this; omega, rfl⟩ rfl rfl (fun m a _ => rt_val re_bl) (fun m a hI _ => ?_) (fun m a hI => .inr ⟨rfl, ?_⟩))
    · obtain ⟨ok, hlen, _⟩ := hI
      obtain ⟨F, L⟩ := a
      have hfew : F.length + L.length ≤ 60 := ok.few
      refine rb_cons (γ1 := [some (frD fr), some (innD fr inn), some (.adr p), some (.adr q), none, none, some (.lst ((ableT F L).map stD)), none, none, none]) (o1 := (q, stT (tM L)) :: (p, stT (tM F)) :: o') (rs_setL (d := .lst ((ableT F L).map stD)) (o1 := (q, stT (tM L)) :: (p, stT (tM F)) :: o') 6 sc_do_meant.nd rfl rfl (rl_lock (p := q) (kvs := (tM L).map fun v : List Int × D => (ky v.1, v.2)) (mq L F) (fun _ => sq L F L) fun od ws => ?_) rfl) ?_
      · have so : setO ((q, stT (tM L)) :: (p, stT (tM F)) :: o') q (.fT od ws ((tM L).map fun v : List Int × D => (ky v.1, v.2))) = (q, .fT od ws ((tM L).map fun v : List Int × D => (ky v.1, v.2))) :: (p, stT (tM F)) :: o' := setO_cons hf2
        rw [so]
        have hat : ∀ v ∈ L, valD (tM L) v.1 = some (endsD v.2) := fun v hv => by
          rw [valD_tM, lk_of_mem ok.one hv]; rfl
        refine rl_eq (rl_lc [("state", 4)] L (fun v => stD v.1) (fun v => [some (frD fr), some (innD fr inn), some (.adr p), some (.adr q), some (stD v.1), none, none, none, none, none]) [4] (fun v => v.2.isSome && (v.2.getD []).all fun e => (lk F e).isSome) (fun v => stD v.1) rfl sc_do_meant.nd
          (ri_eq (ri_keysOS (by walk_at "var") List.mem_cons_self) (by unfold tM; rw [List.map_map, List.map_map]; rfl)) (blkOk_by (N := n_do_meant) (sc := defScope s_do_meant) (by decide +kernel)) (fun s1 H1 C cl fp v hv => ⟨rg_name 4 sc_do_meant.nd rfl (by walk_at "loc"), rts_one ?_, fun _ => by walk_at "var"⟩) (by decide) (by omega) (hNo := List.mem_cons_self)) (by unfold ableT; rw [List.map_map]; rfl)
        refine rt_andB (rt_eq (rt_cm (re_dget (J.Room.u1 hr) (by walk_at "var") (by walk_at "var") (by
            have z := gets_oFS (K := K) (o := (q, D.fT od ws ((tM L).map fun v : List Int × D => (ky v.1, v.2))) :: (p, stT (tM F)) :: o') (s := v.1) List.mem_cons_self
            rw [hat v hv] at z
            exact z)) re_non cmp_notN' (nomark _)) (by rw [isNon_ends]; cases v.2 <;> rfl)) fun hsome => ?_
        obtain ⟨s, e⟩ := v
        cases e with
        | none => cases hsome
        | some E' =>
          refine rt_val (re_eq (re_blt B.all (ra_cons (re_l (d := .lst ((E'.map fun e => (lk F e).isSome).map .bl)) ?_) ra_nil) (blt_all rfl)) (by rw [List.all_map]; rfl))
          have hE : E'.length ≤ 60 := (ok.lef _ hv).few
          rw [List.map_map]
          refine rl_map [("end", 9)] E' stD (fun e => [some (frD fr), some (innD fr inn), some (.adr p), some (.adr q), some (stD s), none, none, none, none, some (stD e)]) [9] _ rfl sc_do_meant.nd (ri_tup (re_dget (J.Room.u1 hr) (by walk_at "var") (by walk_at "var") (by
            have z := gets_oFS (K := K) (o := (q, D.fT od ws ((tM L).map fun v : List Int × D => (ky v.1, v.2))) :: (p, stT (tM F)) :: o') (s := s) List.mem_cons_self
            rw [hat _ hv] at z
            exact z))) ?_ (fun s2 H2 C2 cl2 fp2 e he => ⟨rg_name 9 sc_do_meant.nd rfl (by walk_at "loc"), ?_⟩) (by decide) (by omega)
          · exact blkOk_by (N := n_do_meant) (by kernel_rfl)
          · refine re_eq (re_din (J.Room.u1 hr) (by walk_at "var") (by walk_at "var") (gets_oM (m := F) (s := e) (List.mem_cons_of_mem _ List.mem_cons_self))) ?_
            show D.bl _ = D.bl (lk F e).isSome
            cases lk F e <;> rfl
      · by_cases c : (ableT F L).isEmpty = true
        · rw [if_pos c]
          refine rb_ret (rs_ifT (rt_eq (rt_cm (by walk_at "var") (re_lst ra_nil (by decide)) (cmp_eqNil (J.Room.u0 hr) .lst) (nomark _)) (by rw [List.isEmpty_map]; exact c)) (rb_one (rs_ret (re_drop (o1 := (q, stT (tM L)) :: (p, stT (tM F)) :: o') ?_ ((List.sublist_cons_self _ _).trans (List.sublist_cons_self _ _))))))
          refine re_tyc B.dict (ra_cons (re_l (d := .lst ((statesF fr).map fun s => .tup [stD s, endsD (lkE F s)])) ?_) ra_nil) (ty_dictS rfl (J.Room.u3 hr) (statesF_nodup fr))
          refine rl_map [("state", 4)] (statesF fr) stD (fun s => [some (frD fr), some (innD fr inn), some (.adr p), some (.adr q), some (stD s), none, some (.lst ((ableT F L).map stD)), none, none, none]) [4] _ rfl sc_do_meant.nd (ri_list (re_call h1 (hr.mono (by omega)) (by exact ra_cons (by walk_at "var") ra_nil) (by exact ⟨fr, hfr, rfl, rfl, rfl⟩) rfl)) (blkOk_by (N := n_do_meant) (sc := defScope s_do_meant) (by decide +kernel)) (fun s1 H1 C cl fp s hs => ⟨rg_name 4 sc_do_meant.nd rfl (by walk_at "loc"), ?_⟩) (by decide) (by omega)
          refine re_tup (ra_cons (by walk_at "var") (ra_cons (re_eq (re_get1 (J.Room.u1 hr) (by walk_at "var") (by walk_at "var") (isd_oT (mp L F)) (gets_oM (mp L F))) ?_) ra_nil)) (by walk_at "len")
          unfold lkE
          cases lk F s <;> rfl
        · rw [if_neg c]
          refine rb_cons (rs_ifF (rt_eq (rt_cm (by walk_at "var") (re_lst ra_nil (by decide)) (cmp_eqNil (J.Room.u0 hr) .lst) (nomark _)) (by rw [List.isEmpty_map]; simpa using c)) rb_nil) ?_
          have ab := ableT_ok ok
          have lab : (ableT F L).length ≤ 60 := by
            unfold ableT
            rw [List.length_map]
            exact Nat.le_trans (List.length_filter_le _ _) (by omega)
          refine rb_one (rs_eq (rs_for (ableT F L) stD (fun _ => [some (frD fr), some (innD fr inn), some (.adr p), some (.adr q), none, none, some (.lst ((ableT F L).map stD)), none, none, none]) (fun i => (q, stT (tM (((ableT F L).take i).foldl stepT (F, L)).2)) :: (p, stT (tM (((ableT F L).take i).foldl stepT (F, L)).1)) :: o')
            (fun _ s => [some (frD fr), some (innD fr inn), some (.adr p), some (.adr q), some (stD s), none, some (.lst ((ableT F L).map stD)), none, none, none]) [4] (fun i s => .nx [some (frD fr), some (innD fr inn), some (.adr p), some (.adr q), some (stD s), none, some (.lst ((ableT F L).map stD)), none, none, none] ((q, stT (tM (((ableT F L).take (i + 1)).foldl stepT (F, L)).2)) :: (p, stT (tM (((ableT F L).take (i + 1)).foldl stepT (F, L)).1)) :: o')) rfl PassesOwn.never
            (ri_list (by walk_at "var")) rfl (fun i s hi => rg_name 4 sc_do_meant.nd rfl (by walk_at "loc")) (fun i s hi => ?_) (fun i s hi => ⟨_, .inl rfl, .cons _ (.cons _ (.cons _ (.cons _ (.drop _ (.cons _ (.cons _ (.cons _ (.cons _ (.cons _ .nil)))))))))⟩)) (by rw [List.take_length]))
          rw [fold_succ hi]
          have ai := able_nth ab hi
          have hdrop : (ableT F L).drop i = s :: (ableT F L).drop (i + 1) := by
            obtain ⟨hlt, e⟩ := List.getElem?_eq_some_iff.mp hi
            rw [List.drop_eq_getElem_cons hlt, e]
          rw [hdrop] at ai
          have abi : AbleOk (F, L) ((ableT F L).take i) := ⟨ab.nd.sublist (List.take_sublist _ _), fun t ht => ab.at' t ((List.take_sublist _ _).subset ht)⟩
          obtain ⟨oki, _⟩ := steps_ok hfr ok abi
          generalize hA : ((ableT F L).take i).foldl stepT (F, L) = ai' at ai oki
          obtain ⟨Fi, Li⟩ := ai'
          obtain ⟨E', hL, hall⟩ := ai.at' s List.mem_cons_self
          have hEok := lkE_ok oki.lef s
          have hlE : lkE Li s = some E' := by unfold lkE; rw [show lk Li s = some (some E') from hL]; rfl
          have hE60 : E'.length ≤ 60 := by
            have z := hEok.few
            rw [show lkE (Fi, Li).2 s = some E' from hlE] at z
            exact z
          have few' : Fi.length + Li.length ≤ 60 := oki.few
          refine rb_one (rs_eq (rs_dputS (d := endsD (bothE (E'.map (lkE Fi)))) (o1 := (q, stT (tM (dropM Li s))) :: (p, stT (tM Fi)) :: o') (o2 := (q, stT (tM (dropM Li s))) :: (p, stT (tM Fi)) :: o') (o3 := (q, stT (tM (dropM Li s))) :: (p, stT (tM Fi)) :: o') (J.Room.u1 hr) ?_ (by walk_at "var") (by walk_at "var") (mp _ _) (by unfold tM; rw [List.length_map]; omega)) ?_)
          · refine re_call h3 (hr.mono (by omega)) (ra_cons (re_l (d := .lst ((E'.map (lkE Fi)).map endsD)) (o' := (q, stT (tM (dropM Li s))) :: (p, stT (tM Fi)) :: o') ?_) ra_nil) (by exact ⟨fr, E'.map (lkE Fi), hfr, hd, fun r hr => (by obtain ⟨t, _, rfl⟩ := List.mem_map.mp hr; exact (lkE_ok oki.fin t).inn), rows_sum (fun r hr => (by obtain ⟨t, _, rfl⟩ := List.mem_map.mp hr; exact lkE_ok oki.fin t)) (by rw [List.length_map]; omega), by rw [List.length_map]; omega, rfl, rfl, rfl⟩) rfl
            rw [List.map_map]
            refine rl_map [("end", 9)] E' stD (fun e => [some (frD fr), some (innD fr inn), some (.adr p), some (.adr q), some (stD s), none, some (.lst ((ableT F L).map stD)), none, none, some (stD e)]) [9] _ rfl sc_do_meant.nd (ri_tup ?_) (blkOk_by (N := n_do_meant) (sc := defScope s_do_meant) (by decide +kernel)) (fun s1 H1 C cl fp e he => ⟨rg_name 9 sc_do_meant.nd rfl (by walk_at "loc"), ?_⟩) (by decide) (by omega)
            · refine re_oq (re_dpopS (m := tM Li) (m1 := tM Li) (s := s) (J.Room.u1 hr) (by walk_at "var") (by walk_at "var") (mq Li Fi) (mq Li Fi) ?_) ?_
              · rw [valD_tM, show lk Li s = some (some E') from hL]
                rfl
              · rw [dropD_tM, sq]
            · refine re_dget (J.Room.u1 hr) (by walk_at "var") (by walk_at "var") ?_
              have z := gets_oM (K := K) (o := (q, stT (tM (dropM Li s))) :: (p, stT (tM Fi)) :: o') (m := Fi) (s := e) (mp _ _)
              have he' := hall e he
              have e2 : (lk Fi e).map endsD = some (endsD (lkE Fi e)) := by
                unfold lkE
                cases q' : lk Fi e with
                | none => rw [show lk (Fi, Li).1 e = none from q'] at he'; cases he'
                | some _ => rfl
              rw [e2] at z
              exact z
          · rw [putD_tM, sp]
            show _ = Out.nx _ ((q, stT (tM (dropM Li s))) :: (p, stT (tM (putM Fi s (bothE (((lkE Li s).getD []).map (lkE Fi)))))) :: o')
            rw [hlE]
            rfl
    · obtain ⟨ok, hlen, hrun⟩ := hI
      by_cases c : (ableT a.1 a.2).isEmpty = true
      · refine .inr (.inl ⟨_, _, if_pos c, ?_⟩)
        have e : doRun m a = a.1 := by
          cases m with
          | zero => rfl
          | succ m => exact if_pos c
        unfold doE
        rw [← hrun, e]
      · obtain ⟨s1, s2⟩ := steps_ok hfr ok (ableT_ok ok)
        have pos : 1 ≤ (ableT a.1 a.2).length := by
          cases q' : ableT a.1 a.2 with
          | nil => rw [q'] at c; exact absurd rfl c
          | cons _ _ => exact Nat.succ_le_succ (Nat.zero_le _)
        refine .inl ⟨_, m - 1, (ableT a.1 a.2).foldl stepT a, ?_, ⟨?_, ?_, ?_⟩, .inl (if_neg c), .cons _ (.cons _ (.cons _ (.cons _ (.cons _ (.cons _ (.drop _ (.cons _ (.cons _ (.cons _ .nil)))))))))⟩
        · omega
        · exact s1
        · omega
        · obtain ⟨n, rfl⟩ : ∃ n, m = n + 1 := ⟨m - 1, by omega⟩
          rw [← hrun]
          show doRun n _ = if (ableT a.1 a.2).isEmpty = true then a.1 else doRun n ((ableT a.1 a.2).foldl stepT a)
          rw [if_neg c]
end
end J
end

section
set_option Elab.async false
set_option maxHeartbeats 0
set_option linter.all false
set_option maxRecDepth 100000
/-! a frame with a name more -/
namespace J
open PySem PySem.Spec PyProof.Rows L2
local macro_rules | `(tactic| walk_at "vis") => `(tactic| first | exact Or.inl rfl | exact Or.inr (Or.inl rfl) | exact Or.inr (Or.inr rfl))
local macro_rules | `(tactic| walk_at "loc") => `(tactic| first | exact Or.inl rfl | exact Or.inr rfl)
local macro_rules | `(tactic| walk_at "var") => `(tactic| first
  | exact re_v 0 rfl rfl (by walk_at "vis") | exact re_v 1 rfl rfl (by walk_at "vis") | exact re_v 2 rfl rfl (by walk_at "vis") | exact re_v 3 rfl rfl (by walk_at "vis")
  | exact re_v 4 rfl rfl (by walk_at "vis") | exact re_v 5 rfl rfl (by walk_at "vis") | exact re_v 6 rfl rfl (by walk_at "vis") | exact re_v 7 rfl rfl (by walk_at "vis")
  | exact re_v 8 rfl rfl (by walk_at "vis") | exact re_v 9 rfl rfl (by walk_at "vis") | exact re_v 10 rfl rfl (by walk_at "vis") | exact re_v 11 rfl rfl (by walk_at "vis")
  | exact re_v 12 rfl rfl (by walk_at "vis") | exact re_v 13 rfl rfl (by walk_at "vis") | exact re_v 14 rfl rfl (by walk_at "vis") | exact re_v 15 rfl rfl (by walk_at "vis")
  | exact re_v 16 rfl rfl (by walk_at "vis") | exact re_v 17 rfl rfl (by walk_at "vis") | exact re_v 18 rfl rfl (by walk_at "vis") | exact re_v 19 rfl rfl (by walk_at "vis"))
local macro_rules | `(tactic| walk_at "ix") => `(tactic| first | exact ix_tupD rfl | exact ix_lstD rfl | exact ix_wtD rfl)
local macro_rules | `(tactic| walk_at "len") => `(tactic| first | exact Nat.le_of_ble_eq_true rfl | assumption | (simp; done) | (simp; omega))
local macro_rules | `(tactic| walk_at "ra") => `(tactic| first | ((with_reducible show RA _ [] _ _ _ _); exact ra_nil) | ((with_reducible show RA _ (_ :: _) _ _ _ _); exact ra_cons (by walk_at "ev") (by walk_at "ra")))
local macro_rules | `(tactic| walk_at "bin") => `(tactic| first | exact bin_addI | exact bin_subI | exact bin_addT (by walk_at "len") | exact bin_addL (by walk_at "len"))
local macro_rules | `(tactic| walk_at "ev") => `(tactic| first
  | ((with_reducible show RE _ (Expr.Name _ _) _ _ _ _); walk_at "var")
  | ((with_reducible show RE _ (Expr.Constant _ _ _) _ _ _ _); first | exact re_int | exact re_str | exact re_bl | exact re_non)
  | ((with_reducible show RE _ (Expr.Tuple _ _ _) _ _ _ _); exact re_tup (by walk_at "ra") (by walk_at "len"))
  | ((with_reducible show RE _ (Expr.List _ _) _ _ _ _); exact re_lst (by walk_at "ra") (by walk_at "len"))
  | ((with_reducible show RE _ (Expr.Subscript _ _ _) _ _ _ _); exact re_sub (by walk_at "ev") (by walk_at "ev") (by walk_at "ix"))
  | ((with_reducible show RE _ (Expr.BinOp _ _ _ _) _ _ _ _); exact re_bin (by walk_at "ev") (by walk_at "ev") (by walk_at "bin"))
  | assumption)
theorem insF_split (r : Row) : ∀ f : Fr, ∃ i, i ≤ f.length ∧ insF r f = f.take i ++ r :: f.drop i
  | [] => ⟨0, Nat.le_refl _, rfl⟩
  | q :: f => by
    unfold insF
    split
    · obtain ⟨i, hi, e⟩ := insF_split r f
      exact ⟨i + 1, Nat.succ_le_succ hi, by rw [e]; rfl⟩
    · exact ⟨0, Nat.zero_le _, rfl⟩
/-- the place of the name put in -/
abbrev plc (fr : Fr) (r : Row) : Nat := placeF (insF r fr) r.1
theorem plc_split {fr : Fr} {r : Row} (hn : r.1 ∉ namesF fr) : plc fr r ≤ fr.length ∧ insF r fr = fr.take (plc fr r) ++ r :: fr.drop (plc fr r) := by
  obtain ⟨i, hi, e⟩ := insF_split r fr
  have lt : (fr.take i).length = i := by rw [List.length_take]; exact Nat.min_eq_left hi
  have hat : (namesF (insF r fr))[i]? = some r.1 := by
    unfold namesF
    rw [List.getElem?_map, e, List.getElem?_append_right (by omega), lt, Nat.sub_self]
    rfl
  have hm : r.1 ∈ namesF (insF r fr) := List.mem_of_getElem? hat
  obtain ⟨h1, h2, _⟩ := placeF_at hm
  have hj : plc fr r = i := by
    rcases Nat.lt_trichotomy (plc fr r) i with h | h | h
    · exfalso
      have z : (namesF (insF r fr))[plc fr r]? = some r.1 := h1
      unfold namesF at z
      rw [List.getElem?_map, e, List.getElem?_append_left (by omega)] at z
      obtain ⟨q, hq, eq⟩ := Option.map_eq_some_iff.mp z
      have hq' := (List.take_sublist _ _).subset (List.mem_of_getElem? hq)
      exact hn (by rw [← eq]; exact List.mem_map_of_mem hq')
    · exact h
    · exact absurd hat (h2 i h)
  rw [hj]
  exact ⟨hi, e⟩
theorem inF_app {f1 f2 : Fr} {s1 s2 : List Int} {r : Row} {v : Int} (h : s1.length = f1.length) : inF (f1 ++ r :: f2) (s1 ++ v :: s2) = (inF f1 s1 && ((decide (r.2.1 ≤ v) && decide (v ≤ r.2.2)) && inF f2 s2)) := by
  unfold inF
  rw [List.zip_append h, List.all_append]
  rfl
theorem inF_app2 {f1 f2 : Fr} {s1 s2 : List Int} (h : s1.length = f1.length) : inF (f1 ++ f2) (s1 ++ s2) = (inF f1 s1 && inF f2 s2) := by
  unfold inF
  rw [List.zip_append h, List.all_append]
def putS (j : Nat) (v : Int) (s : List Int) : List Int := s.take j ++ [v] ++ s.drop j
def remS (j : Nat) (e : List Int) : List Int := e.take j ++ e.drop (j + 1)
theorem putS_in {fr : Fr} {r : Row} {s : List Int} {v : Int} (hn : r.1 ∉ namesF fr) (hs : s ∈ statesF fr) (hv : v ∈ numsF r.2.1 r.2.2) : putS (plc fr r) v s ∈ statesF (insF r fr) := by
  obtain ⟨hj, e⟩ := plc_split hn
  obtain ⟨hl, hi⟩ := mem_statesF.mp hs
  obtain ⟨h1, h2⟩ := mem_numsF.mp hv
  generalize plc fr r = j at hj e ⊢
  have lt : (s.take j).length = (fr.take j).length := by rw [List.length_take, List.length_take, hl]
  have hsp : inF fr s = (inF (fr.take j) (s.take j) && inF (fr.drop j) (s.drop j)) := by
    conv => lhs; rw [← List.take_append_drop j fr, ← List.take_append_drop j s]
    exact inF_app2 lt
  rw [hi] at hsp
  have hsp := hsp.symm
  rw [Bool.and_eq_true] at hsp
  rw [e]
  refine mem_statesF.mpr ⟨?_, ?_⟩
  · unfold putS
    have h1 : (s.take j ++ [v] ++ s.drop j).length = j + 1 + (fr.length - j) := by
      rw [List.length_append, List.length_append, List.length_singleton, List.length_drop, List.length_take, hl, Nat.min_eq_left hj]
    have h2 : (fr.take j ++ r :: fr.drop j).length = j + (fr.length - j + 1) := by
      rw [List.length_append, List.length_cons, List.length_drop, List.length_take, Nat.min_eq_left hj]
    rw [h1, h2]
    omega
  · unfold putS
    rw [List.append_assoc, List.singleton_append, inF_app lt, hsp.1, hsp.2, decide_eq_true h1, decide_eq_true h2]
    rfl
theorem remS_in {fr : Fr} {r : Row} {e' : List Int} (hn : r.1 ∉ namesF fr) (he : e' ∈ statesF (insF r fr)) : remS (plc fr r) e' ∈ statesF fr := by
  obtain ⟨hj, e⟩ := plc_split hn
  obtain ⟨hl, hi⟩ := mem_statesF.mp he
  generalize plc fr r = j at hj e ⊢
  rw [e] at hl hi
  have lj : (fr.take j).length = j := by rw [List.length_take]; exact Nat.min_eq_left hj
  rw [List.length_append, List.length_cons, lj, List.length_drop] at hl
  have hlt : j < e'.length := by omega
  have lt : (e'.take j).length = (fr.take j).length := by rw [List.length_take, lj]; omega
  have es : e' = e'.take j ++ e'[j] :: e'.drop (j + 1) := by
    rw [← List.drop_eq_getElem_cons hlt, List.take_append_drop]
  rw [es, inF_app lt, Bool.and_eq_true, Bool.and_eq_true] at hi
  refine mem_statesF.mpr ⟨?_, ?_⟩
  · unfold remS
    rw [List.length_append, lt, lj, List.length_drop]
    omega
  · unfold remS
    conv => lhs; rw [← List.take_append_drop j fr]
    rw [inF_app2 lt, hi.1, hi.2.2]
    rfl
def varE (fr : Fr) (r : Row) (g : Mean) : Mean := fun s => (bothE ((numsF r.2.1 r.2.2).map fun v => g (putS (plc fr r) v s))).map fun L => sortA (L.map (remS (plc fr r)))
theorem varE_ok {fr : Fr} {r : Row} {g : Mean} (hf : FrOk fr) (hf2 : FrOk (insF r fr)) (hn : r.1 ∉ namesF fr) (hg : GOk (insF r fr) g) : GOk fr (varE fr r g) := fun s hs => by
  have hb : EnOk (insF r fr) (bothE ((numsF r.2.1 r.2.2).map fun v => g (putS (plc fr r) v s))) := bothE_ok hf2 fun q hq => by
    obtain ⟨v, hv, rfl⟩ := List.mem_map.mp hq
    exact (hg _ (putS_in hn hs hv)).inn
  unfold varE
  cases q : bothE ((numsF r.2.1 r.2.2).map fun v => g (putS (plc fr r) v s)) with
  | none => exact ⟨(fun L e => nomatch e), Nat.zero_le _⟩
  | some L =>
    have hm : ∀ t ∈ sortA (L.map (remS (plc fr r))), t ∈ statesF fr := fun t ht => by
      obtain ⟨e, he, rfl⟩ := List.mem_map.mp ((sortA_mem t _).mp ht)
      exact remS_in hn (hb.inn L q e he)
    refine ⟨fun L' e t ht => ?_, ?_⟩
    · cases e
      exact hm t ht
    · exact Nat.le_trans (nodup_sub_len (asc_nodup (sortA_asc _)) hm) hf.le60
theorem cut_to {ds : List D} {j : Nat} (h : j ≤ ds.length) : cutD ds none (some (j : Int)) = ds.take j := by
  unfold cutD
  rw [HT.sIx_none, HT.sIx_nat, List.drop_zero, Nat.sub_zero, Nat.min_eq_left h]
theorem cut_from {ds : List D} {j : Nat} (h : j ≤ ds.length) : cutD ds (some (j : Int)) none = ds.drop j := by
  unfold cutD
  rw [HT.sIx_none, HT.sIx_nat, Nat.min_eq_left h]
  exact List.take_of_length_le (by rw [List.length_drop]; exact Nat.le_refl _)
section
variable {P : Program} {w : World} {K : PySem.W.Frag} {mg : Str → Option Value} {base : Heap} {f : Addr} {fd : FuncData}
structure VarOk (fr : Fr) (r : Row) : Prop where
  out : FrOk fr
  inn : FrOk (insF r fr)
  asc : AscR fr
  new : r.1 ∉ namesF fr
  pos : 1 ≤ fr.length
  num : (numsF r.2.1 r.2.2).length ≤ 100
/-- the def of a name more: g is what the body means -/
def RLocal (RM : List D → Own → D → Own → Prop) : List D → Own → D → Own → Prop := fun ds o d o' => ∃ (fr : Fr) (r : Row) (b : D) (g : Mean), VarOk fr r ∧ GOk (insF r fr) g ∧ (∀ o, RM [frD (insF r fr), b] o (tabD (insF r fr) g) o) ∧ ds = [frD fr, .tup [.str "var", .str r.1, .int r.2.1, .int r.2.2, b]] ∧ d = tabD fr (varE fr r g) ∧ o' = o
theorem has_local_meant (F : Fun K "local_meant" "local_meant" s_local_meant f fd) (hm : mg "local_meant" = some (.ref f)) (B : Bi mg) (k : Nat) (hk : 3 ≤ k) (RM : List D → Own → D → Own → Prop) (h1 : Has P w K mg base "states_of" 1 1 RStates) (h2 : Has P w K mg base "inner_frame" 2 2 RInner) (h3 : Has P w K mg base "both_ends" 1 1 RBoth) (h4 : Has P w K mg base "place_of" 2 2 RPlace)
    (h5 : Has P w K mg base "meant" k 2 RM) : Has P w K mg base "local_meant" (k + 1) 2 (RLocal RM) := by
  refine has_mk (k := k) F sc_local_meant hm (F.binds fun _ _ _ _ _ _ us hl => match us, hl with | [_, _], _ => rfl) (by rintro _ _ _ _ ⟨fr, r, b, g, _, _, _, rfl, _⟩; rfl) fun cdv A outer s0 H E ds o d o' hr hR => ?_
  obtain ⟨fr, r, b, g, hv, hg, hRM, rfl, rfl, rfl⟩ := hR
  have h60 := hv.out.le60
  have hin : (namesF (insF r fr)).length = (insF r fr).length := List.length_map _
  have hmem : r.1 ∈ namesF (insF r fr) := List.mem_map_of_mem ((insF_perm r fr).mem_iff.mpr (List.mem_append_right _ List.mem_cons_self))
  have hlen : (insF r fr).length ≤ 100 := Nat.le_trans hv.inn.few (by decide)
  refine rb_cons (rs_unp (by walk_at "var") (rg_tup rfl (rgs_cons (rg_name 2 sc_local_meant.nd rfl (by walk_at "loc")) (rgs_cons (rg_name 3 sc_local_meant.nd rfl (by walk_at "loc")) (rgs_cons (rg_name 4 sc_local_meant.nd rfl (by walk_at "loc")) (rgs_cons (rg_name 5 sc_local_meant.nd rfl (by walk_at "loc")) (rgs_cons (rg_name 6 sc_local_meant.nd rfl (by walk_at "loc")) rgs_nil))))))) ?_
  refine rb_cons (rs_set 7 sc_local_meant.nd rfl (by walk_at "vis") (re_call h2 (hr.mono (by omega)) (by exact ra_cons (by walk_at "var") (ra_cons (by walk_at "var") ra_nil)) (by exact ⟨fr, r, b, Nat.le_trans hv.out.few (by decide), hv.asc, rfl, rfl, rfl⟩) rfl)) ?_
  refine rb_consG (rsg_unp (reg_tup (rag_cons (reg_of (d := tabD (insF r fr) g) (o1 := o') (by exact re_call h5 hr (by exact ra_cons (by walk_at "var") (ra_cons (by walk_at "var") ra_nil)) (by exact hRM o') rfl)) (fun d o1 h => rag_cons (reg_of (d := .int (plc fr r : Int)) (o := o1) (o1 := o1) (by exact re_call h4 (hr.mono (by omega)) (by exact ra_cons (by walk_at "var") (ra_cons (by walk_at "var") ra_nil)) (by exact ⟨insF r fr, r.1, hlen, hv.inn.named, hmem, rfl, rfl, rfl⟩) rfl)) (fun d o2 h => rag_cons (reg_newT (o := o2)) (fun _ _ _ => rag_nil)))) ?_)
    (fun d => match d with | .tup [x, y, z] => [some (frD fr), some (.tup [.str "var", .str r.1, .int r.2.1, .int r.2.2, b]), some (.str "var"), some (.str r.1), some (.int r.2.1), some (.int r.2.2), some b, some (frD (insF r fr)), some x, some y, some z, none, none, none, none, none] | _ => []) (ix := [8, 9, 10]) fun d o1 hP => ?_) fun γ' o1 hP => ?_
  · rintro ds o1 ⟨d1, o2, ds', _, ⟨d2, o3, ds'', _, ⟨d3, o4, ds3, _, ⟨rfl, _⟩, rfl⟩, rfl⟩, rfl⟩
    exact Nat.le_of_ble_eq_true rfl
  · obtain ⟨ds, rfl, d1, o2, ds', _, ⟨d2, o3, ds'', _, ⟨d3, o4, ds3, _, ⟨rfl, _⟩, rfl⟩, rfl⟩, rfl⟩ := hP
    exact rg_tup rfl (rgs_cons (rg_name 8 sc_local_meant.nd rfl (by walk_at "loc")) (rgs_cons (rg_name 9 sc_local_meant.nd rfl (by walk_at "loc")) (rgs_cons (rg_name 10 sc_local_meant.nd rfl (by walk_at "loc")) rgs_nil)))
  obtain ⟨_, ⟨ds, rfl, d1, o2, ds', ⟨rfl, rfl⟩, ⟨d2, o3, ds'', ⟨rfl, rfl⟩, ⟨d3, o4, ds3, ⟨p, rfl, hf, rfl⟩, ⟨rfl, rfl⟩, rfl⟩, rfl⟩, rfl⟩, rfl⟩ := hP
  refine rb_cons (rs_for (statesF fr) stD (fun _ => [some (frD fr), some (.tup [.str "var", .str r.1, .int r.2.1, .int r.2.2, b]), some (.str "var"), some (.str r.1), some (.int r.2.1), some (.int r.2.2), some b, some (frD (insF r fr)), some (tabD (insF r fr) g), some (.int (plc fr r : Int)), some (.adr p), none, none, none, none, none]) (fun i => (p, stT (tM (tabs fr (varE fr r g) i))) :: o3)
    (fun _ s => [some (frD fr), some (.tup [.str "var", .str r.1, .int r.2.1, .int r.2.2, b]), some (.str "var"), some (.str r.1), some (.int r.2.1), some (.int r.2.2), some b, some (frD (insF r fr)), some (tabD (insF r fr) g), some (.int (plc fr r : Int)), some (.adr p), some (stD s), none, none, none, none]) [11] (fun i s => .nx [some (frD fr), some (.tup [.str "var", .str r.1, .int r.2.1, .int r.2.2, b]), some (.str "var"), some (.str r.1), some (.int r.2.1), some (.int r.2.2), some b, some (frD (insF r fr)), some (tabD (insF r fr) g), some (.int (plc fr r : Int)), some (.adr p), some (stD s), some (.lst (((numsF r.2.1 r.2.2).map fun v => g (putS (plc fr r) v s)).map endsD)), some (endsD (bothE ((numsF r.2.1 r.2.2).map fun v => g (putS (plc fr r) v s)))), none, none] ((p, stT (tM (tabs fr (varE fr r g) (i + 1)))) :: o3)) rfl PassesOwn.never
    (ri_list (re_call h1 (hr.mono (by omega)) (by exact ra_cons (by walk_at "var") ra_nil) (by exact ⟨fr, hv.out, rfl, rfl, rfl⟩) rfl)) rfl (fun i s hi => rg_name 11 sc_local_meant.nd rfl (by walk_at "loc")) (fun i s hi => ?_)
    (fun i s hi => ⟨_, .inl rfl, .cons _ (.cons _ (.cons _ (.cons _ (.cons _ (.cons _ (.cons _ (.cons _ (.cons _ (.cons _ (.cons _ (.drop _ (.drop _ (.drop _ (.cons _ (.cons _ .nil)))))))))))))))⟩)) ?_
  · have hs := List.mem_of_getElem? hi
    have hl := statesF_len hs
    obtain ⟨hj, _⟩ := plc_split hv.new
    have hj' : plc fr r ≤ (s.map D.int).length := by rw [List.length_map, hl]; exact hj
    have hrow : ∀ q ∈ (numsF r.2.1 r.2.2).map (fun v => g (putS (plc fr r) v s)), EnOk (insF r fr) q := fun q hq => by
      obtain ⟨v, hv', rfl⟩ := List.mem_map.mp hq
      exact hg _ (putS_in hv.new hs hv')
    have few8 := hv.out.few
    refine rb_cons (rs_setL (d := .lst (((numsF r.2.1 r.2.2).map fun v => g (putS (plc fr r) v s)).map endsD)) (o1 := (p, stT (tM (tabs fr (varE fr r g) i))) :: o3) 12 sc_local_meant.nd rfl rfl ?_ rfl) ?_
    · rw [List.map_map]
      refine rl_map [("value", 14)] (numsF r.2.1 r.2.2) D.int (fun v => [some (frD fr), some (.tup [.str "var", .str r.1, .int r.2.1, .int r.2.2, b]), some (.str "var"), some (.str r.1), some (.int r.2.1), some (.int r.2.2), some b, some (frD (insF r fr)), some (tabD (insF r fr) g), some (.int (plc fr r : Int)), some (.adr p), some (stD s), none, none, some (.int v), none]) [14] _ rfl sc_local_meant.nd (ri_eq (ri_range2 rfl B.range (ra_cons (by walk_at "var") (ra_cons (re_bin (by walk_at "var") re_int bin_addI) ra_nil)) ?_) (rangeD_nums _ _)) (blkOk_by (N := n_local_meant) (sc := defScope s_local_meant) (by decide +kernel)) (fun s1 H1 C cl fp v hv' => ⟨rg_name 14 sc_local_meant.nd rfl (by walk_at "loc"), ?_⟩) (by decide) (Nat.le_trans hv.num (by decide))
      · have hrr := hv.inn.nums r ((insF_perm r fr).mem_iff.mpr (List.mem_append_right _ List.mem_cons_self))
        omega
      · refine re_tabAt (J.Room.u1 hr) (by walk_at "var") (re_eq (re_bin (re_bin (re_slT (by walk_at "var") ro_none (ro_some (by walk_at "var"))) (re_tup (ra_cons (by walk_at "var") ra_nil) (by walk_at "len")) (bin_addT ?_)) (re_slT (by walk_at "var") (ro_some (by walk_at "var")) ro_none) (bin_addT ?_)) ?_) (putS_in hv.new hs hv')
        · rw [cut_to hj', List.length_take, List.length_map, hl]
          show min _ _ + 1 ≤ 100000
          omega
        · rw [cut_to hj', cut_from hj', List.length_append, List.length_take, List.length_drop, List.length_map, hl]
          show min _ _ + 1 + _ ≤ 100000
          omega
        · rw [cut_to hj', cut_from hj']
          unfold putS stD
          rw [List.map_append, List.map_append, List.map_take, List.map_drop]
          rfl
    · refine rb_cons (rs_set 13 sc_local_meant.nd rfl (by walk_at "vis") (re_call h3 (hr.mono (by omega)) (by exact ra_cons (by walk_at "var") ra_nil) (by exact ⟨insF r fr, (numsF r.2.1 r.2.2).map (fun v => g (putS (plc fr r) v s)), hv.inn, (by have := (insF_perm r fr).length_eq; rw [List.length_append] at this; show 1 ≤ (insF r fr).length; rw [this]; exact Nat.le_add_left 1 _), fun q hq => (hrow q hq).inn, rows_sum hrow (by rw [List.length_map]; have := hv.num; omega), by rw [List.length_map]; have := hv.num; omega, rfl, rfl, rfl⟩) rfl)) ?_
      refine rb_one (rs_eq (rs_dputS (d := endsD (varE fr r g s)) (o1 := (p, stT (tM (tabs fr (varE fr r g) i))) :: o3) (o2 := (p, stT (tM (tabs fr (varE fr r g) i))) :: o3) (o3 := (p, stT (tM (tabs fr (varE fr r g) i))) :: o3) (J.Room.u1 hr) ?_ (by walk_at "var") (by walk_at "var") List.mem_cons_self (Nat.le_trans (tabs_len fr _ i) (by omega))) ?_)
      · have hbE : EnOk (insF r fr) (bothE ((numsF r.2.1 r.2.2).map fun v => g (putS (plc fr r) v s))) := bothE_ok hv.inn fun q hq => (hrow q hq).inn
        rw [show varE fr r g s = (bothE ((numsF r.2.1 r.2.2).map fun v => g (putS (plc fr r) v s))).map fun L => sortA (L.map (remS (plc fr r))) from rfl]
        generalize bothE ((numsF r.2.1 r.2.2).map fun v => g (putS (plc fr r) v s)) = q at hbE ⊢
        cases q with
        | none => exact re_ifT (rt_cm (by walk_at "var") re_non cmp_isN' (by rfl)) re_non
        | some L =>
          have hL : ∀ t ∈ L, t ∈ statesF (insF r fr) := hbE.inn L rfl
          have hL60 : L.length ≤ 60 := hbE.few
          have hm : ∀ t ∈ L.map (remS (plc fr r)), t ∈ statesF fr := fun t ht => by
            obtain ⟨e, he, rfl⟩ := List.mem_map.mp ht
            exact remS_in hv.new (hL e he)
          have hlf : (insF r fr).length = fr.length + 1 := by rw [(insF_perm r fr).length_eq, List.length_append]; rfl
          refine re_ifF (rt_cm (by walk_at "var") re_non cmp_isN' (by rfl)) (re_tyc B.tuple (ra_cons (re_sortedSet (xs := L.map (remS (plc fr r))) (U := statesF fr) (k := fr.length) rfl (J.Room.u3 hr) B.sorted B.set (re_l ?_) (.inl rfl) (fun t ht => statesF_len (hm t ht)) hv.pos (Nat.lt_of_le_of_lt h60 (by decide)) hm) ra_nil) ty_tuple)
          refine rl_eq (rl_map [("own", 15)] L stD (fun e => [some (frD fr), some (.tup [.str "var", .str r.1, .int r.2.1, .int r.2.2, b]), some (.str "var"), some (.str r.1), some (.int r.2.1), some (.int r.2.2), some b, some (frD (insF r fr)), some (tabD (insF r fr) g), some (.int (plc fr r : Int)), some (.adr p), some (stD s), some (.lst (((numsF r.2.1 r.2.2).map fun v => g (putS (plc fr r) v s)).map endsD)), some (endsD (some L)), none, some (stD e)]) [15] (fun e => stD (remS (plc fr r) e)) rfl sc_local_meant.nd (ri_tup (by walk_at "var")) (blkOk_by (N := n_local_meant) (sc := defScope s_local_meant) (by decide +kernel)) (fun s1 H1 C cl fp e he => ⟨rg_name 15 sc_local_meant.nd rfl (by walk_at "loc"), ?_⟩) (by decide) (by omega)) (by rw [List.map_map]; rfl)
          have hle : e.length = fr.length + 1 := (statesF_len (hL e he)).trans hlf
          have h1 : plc fr r ≤ (e.map D.int).length := by rw [List.length_map, hle]; omega
          have h2 : plc fr r + 1 ≤ (e.map D.int).length := by rw [List.length_map, hle]; omega
          refine re_eq (re_bin (re_slT (by walk_at "var") ro_none (ro_some (by walk_at "var"))) (re_slT (by walk_at "var") (ro_some (re_eq (d := .int ((plc fr r + 1 : Nat) : Int)) (re_bin (by walk_at "var") re_int bin_addI) rfl)) ro_none) (bin_addT ?_)) ?_
          · rw [cut_to h1, cut_from h2, List.length_take, List.length_drop, List.length_map, hle]
            omega
          · rw [cut_to h1, cut_from h2]
            show _ = stD (remS (plc fr r) e)
            unfold remS stD
            rw [List.map_append, List.map_take, List.map_drop]
      · rw [setO_cons hf, putD_tM, tabs_succ hi]
        rfl
  · rw [tabs_all]
    exact rb_one (rs_ret (re_oq (re_pubT (by walk_at "var") List.mem_cons_self) (outO_cons hf)))
end
end J
end

section
set_option Elab.async false
set_option maxHeartbeats 0
set_option linter.all false
set_option maxRecDepth 100000
/-! what commands mean; that it is states of the frame -/
namespace J
open PySem PySem.Spec PyProof.Rows L2
local macro_rules | `(tactic| walk_at "vis") => `(tactic| first | exact Or.inl rfl | exact Or.inr (Or.inl rfl) | exact Or.inr (Or.inr rfl))
local macro_rules | `(tactic| walk_at "loc") => `(tactic| first | exact Or.inl rfl | exact Or.inr rfl)
local macro_rules | `(tactic| walk_at "var") => `(tactic| first
  | exact re_v 0 rfl rfl (by walk_at "vis") | exact re_v 1 rfl rfl (by walk_at "vis") | exact re_v 2 rfl rfl (by walk_at "vis") | exact re_v 3 rfl rfl (by walk_at "vis")
  | exact re_v 4 rfl rfl (by walk_at "vis") | exact re_v 5 rfl rfl (by walk_at "vis") | exact re_v 6 rfl rfl (by walk_at "vis") | exact re_v 7 rfl rfl (by walk_at "vis")
  | exact re_v 8 rfl rfl (by walk_at "vis") | exact re_v 9 rfl rfl (by walk_at "vis") | exact re_v 10 rfl rfl (by walk_at "vis") | exact re_v 11 rfl rfl (by walk_at "vis")
  | exact re_v 12 rfl rfl (by walk_at "vis") | exact re_v 13 rfl rfl (by walk_at "vis") | exact re_v 14 rfl rfl (by walk_at "vis") | exact re_v 15 rfl rfl (by walk_at "vis")
  | exact re_v 16 rfl rfl (by walk_at "vis") | exact re_v 17 rfl rfl (by walk_at "vis") | exact re_v 18 rfl rfl (by walk_at "vis") | exact re_v 19 rfl rfl (by walk_at "vis"))
local macro_rules | `(tactic| walk_at "ix") => `(tactic| first | exact ix_tupD rfl | exact ix_lstD rfl | exact ix_wtD rfl)
local macro_rules | `(tactic| walk_at "len") => `(tactic| first | exact Nat.le_of_ble_eq_true rfl | assumption | (simp; done) | (simp; omega))
local macro_rules | `(tactic| walk_at "ra") => `(tactic| first | ((with_reducible show RA _ [] _ _ _ _); exact ra_nil) | ((with_reducible show RA _ (_ :: _) _ _ _ _); exact ra_cons (by walk_at "ev") (by walk_at "ra")))
local macro_rules | `(tactic| walk_at "bin") => `(tactic| first | exact bin_addI | exact bin_subI | exact bin_addT (by walk_at "len") | exact bin_addL (by walk_at "len"))
local macro_rules | `(tactic| walk_at "ev") => `(tactic| first
  | ((with_reducible show RE _ (Expr.Name _ _) _ _ _ _); walk_at "var")
  | ((with_reducible show RE _ (Expr.Constant _ _ _) _ _ _ _); first | exact re_int | exact re_str | exact re_bl | exact re_non)
  | ((with_reducible show RE _ (Expr.Tuple _ _ _) _ _ _ _); exact re_tup (by walk_at "ra") (by walk_at "len"))
  | ((with_reducible show RE _ (Expr.List _ _) _ _ _ _); exact re_lst (by walk_at "ra") (by walk_at "len"))
  | ((with_reducible show RE _ (Expr.Subscript _ _ _) _ _ _ _); exact re_sub (by walk_at "ev") (by walk_at "ev") (by walk_at "ix"))
  | ((with_reducible show RE _ (Expr.BinOp _ _ _ _) _ _ _ _); exact re_bin (by walk_at "ev") (by walk_at "ev") (by walk_at "bin"))
  | assumption)
mutual
def meanC : Cmd → Fr → Mean
  | .skip, _, s => some [s]
  | .abort, _, _ => none
  | .magic, _, _ => some []
  | .set ps, fr, s => setE fr ps s
  | .spec ns pre post, fr, s => specE fr ns pre post s
  | .assert c, fr, s => if holdsC fr s none c = true then some [s] else none
  | .assume c, fr, s => if holdsC fr s none c = true then some [s] else some []
  | .seq a b, fr, s => (meanC a fr s).bind fun L => bothE (L.map (meanC b fr))
  | .any a b, fr, s => bothE [meanC a fr s, meanC b fr s]
  | .var r b, fr, s => varE fr r (meanC b (insF r fr)) s
  | .ite a, fr, s => ifE fr (innC a fr) s
  | .doo a, fr, s => doE fr (innC a fr) s
def innC : Alts → Fr → Inner
  | .nil, _ => []
  | .cons g c r, fr => (g, meanC c fr) :: innC r fr
end
def Alts.len : Alts → Nat
  | .nil => 0
  | .cons _ _ r => r.len + 1
def CndOk (k : Nat) (fr : Fr) (c : Cnd) : Prop := (∀ s ∈ statesF fr, COk fr s none c) ∧ c.depth ≤ k
mutual
def CmdOk (k : Nat) : Cmd → Fr → Prop
  | .skip, _ => True
  | .abort, _ => True
  | .magic, _ => True
  | .set ps, fr => ∀ s ∈ statesF fr, POk fr ps s k
  | .spec ns pre post, fr => SpOk fr ns pre post k
  | .assert c, fr => CndOk k fr c
  | .assume c, fr => CndOk k fr c
  | .seq a b, fr => CmdOk k a fr ∧ CmdOk k b fr
  | .any a b, fr => CmdOk k a fr ∧ CmdOk k b fr
  | .var r b, fr => VarOk fr r ∧ CmdOk k b (insF r fr)
  | .ite a, fr => AltsOk k a fr ∧ a.len ≤ 100
  | .doo a, fr => AltsOk k a fr ∧ a.len ≤ 100
def AltsOk (k : Nat) : Alts → Fr → Prop
  | .nil, _ => True
  | .cons g c r, fr => CndOk k fr g ∧ CmdOk k c fr ∧ AltsOk k r fr
end
theorem en_none (fr : Fr) : EnOk fr none := ⟨(fun L e => nomatch e), Nat.zero_le _⟩
theorem en_nil (fr : Fr) : EnOk fr (some []) := ⟨(fun L e s hs => by cases e; cases hs), Nat.zero_le _⟩
theorem en_one {fr : Fr} {s : List Int} (h : s ∈ statesF fr) : EnOk fr (some [s]) := ⟨(fun L e t ht => by cases e; rw [List.mem_singleton.mp ht]; exact h), by show 1 ≤ 60; decide⟩
theorem setE_ok {fr : Fr} {ps : Prs} {s : List Int} (h : s ∈ statesF fr) : EnOk fr (setE fr ps s) := by
  unfold setE
  split
  · rename_i c
    exact en_one (mem_statesF.mpr ⟨withF_len (statesF_len h), c⟩)
  · exact en_none fr
theorem specE_ok {fr : Fr} {ns : List Str} {pre post : Cnd} {s : List Int} (hf : FrOk fr) : EnOk fr (specE fr ns pre post s) := by
  unfold specE
  split
  · refine ⟨fun L e t ht => ?_, ?_⟩
    · cases e
      exact (List.mem_filter.mp (List.mem_filter.mp ht).1).1
    · exact Nat.le_trans (List.length_filter_le _ _) (Nat.le_trans (List.length_filter_le _ _) hf.le60)
  · exact en_none fr
theorem doRun_ok {fr : Fr} (hf : FrOk fr) : ∀ (n : Nat) {a : Tab × Tab}, DoOk fr a → ∀ p ∈ doRun n a, EnOk fr p.2
  | 0, a, h => h.fin
  | n + 1, a, h => by
    unfold doRun
    split
    · exact h.fin
    · exact doRun_ok hf n (steps_ok hf h (ableT_ok h)).1
theorem inn_len : ∀ (a : Alts) (fr : Fr), (innC a fr).length = a.len
  | .nil, _ => rfl
  | .cons g c r, fr => by
    show (innC r fr).length + 1 = r.len + 1
    rw [inn_len r fr]
mutual
theorem meanC_ok {k : Nat} : ∀ {c : Cmd} {fr : Fr}, FrOk fr → CmdOk k c fr → GOk fr (meanC c fr)
  | .skip, fr, _, _ => fun s hs => by rw [meanC]; exact en_one hs
  | .abort, fr, _, _ => fun s hs => by rw [meanC]; exact en_none fr
  | .magic, fr, _, _ => fun s hs => by rw [meanC]; exact en_nil fr
  | .set ps, fr, _, _ => fun s hs => by rw [meanC]; exact setE_ok hs
  | .spec ns pre post, fr, hf, _ => fun s hs => by rw [meanC]; exact specE_ok hf
  | .assert c, fr, _, _ => fun s hs => by
    rw [meanC]
    split
    · exact en_one hs
    · exact en_none fr
  | .assume c, fr, _, _ => fun s hs => by
    rw [meanC]
    split
    · exact en_one hs
    · exact en_nil fr
  | .seq a b, fr, hf, h => fun s hs => by
    rw [CmdOk] at h
    rw [meanC]
    have ha := meanC_ok hf h.1 s hs
    have hb := meanC_ok hf h.2
    cases q : meanC a fr s with
    | none => exact en_none fr
    | some L =>
      rw [q] at ha
      exact bothE_ok hf fun r hr => by
        obtain ⟨t, ht, rfl⟩ := List.mem_map.mp hr
        exact (hb t (ha.inn L rfl t ht)).inn
  | .any a b, fr, hf, h => fun s hs => by
    rw [CmdOk] at h
    rw [meanC]
    exact bothE_ok hf fun r hr => by
      rcases List.mem_cons.mp hr with e | hr
      · rw [e]; exact (meanC_ok hf h.1 s hs).inn
      · rw [List.mem_singleton.mp hr]; exact (meanC_ok hf h.2 s hs).inn
  | .var r b, fr, hf, h => fun s hs => by
    rw [CmdOk] at h
    rw [meanC]
    exact varE_ok hf h.1.inn h.1.new (meanC_ok h.1.inn h.2) s hs
  | .ite a, fr, hf, h => fun s hs => by
    rw [CmdOk] at h
    rw [meanC]
    have hi := innC_ok hf h.1 h.2
    unfold ifE
    split
    · exact en_none fr
    · exact bothE_ok hf fun r hr => (rowsA_in hi hs r hr).inn
  | .doo a, fr, hf, h => fun s hs => by
    rw [CmdOk] at h
    rw [meanC]
    exact lkE_ok (doRun_ok hf 60 (do_start hf (innC_ok hf h.1 h.2))) s
theorem innC_all {k : Nat} : ∀ {a : Alts} {fr : Fr}, FrOk fr → AltsOk k a fr → ∀ p ∈ innC a fr, CndOk k fr p.1 ∧ GOk fr p.2
  | .nil, fr, _, _ => fun p hp => by rw [innC] at hp; cases hp
  | .cons g c r, fr, hf, h => fun p hp => by
    rw [AltsOk] at h
    rw [innC] at hp
    rcases List.mem_cons.mp hp with e | hp
    · rw [e]; exact ⟨h.1, meanC_ok hf h.2.1⟩
    · exact innC_all hf h.2.2 p hp
theorem innC_ok {k : Nat} {a : Alts} {fr : Fr} (hf : FrOk fr) (h : AltsOk k a fr) (hl : a.len ≤ 100) : InnOk fr (innC a fr) k :=
  ⟨fun p hp => (innC_all hf h p hp).1, fun p hp => (innC_all hf h p hp).2, by rw [inn_len]; exact hl⟩
end
end J
end

section
set_option Elab.async false
set_option maxHeartbeats 0
set_option linter.all false
set_option maxRecDepth 100000
/-! meant -/
namespace J
open PySem PySem.Spec PyProof.Rows L2
local macro_rules | `(tactic| walk_at "vis") => `(tactic| first | exact Or.inl rfl | exact Or.inr (Or.inl rfl) | exact Or.inr (Or.inr rfl))
local macro_rules | `(tactic| walk_at "loc") => `(tactic| first | exact Or.inl rfl | exact Or.inr rfl)
local macro_rules | `(tactic| walk_at "var") => `(tactic| first
  | exact re_v 0 rfl rfl (by walk_at "vis") | exact re_v 1 rfl rfl (by walk_at "vis") | exact re_v 2 rfl rfl (by walk_at "vis") | exact re_v 3 rfl rfl (by walk_at "vis")
  | exact re_v 4 rfl rfl (by walk_at "vis") | exact re_v 5 rfl rfl (by walk_at "vis") | exact re_v 6 rfl rfl (by walk_at "vis") | exact re_v 7 rfl rfl (by walk_at "vis")
  | exact re_v 8 rfl rfl (by walk_at "vis") | exact re_v 9 rfl rfl (by walk_at "vis") | exact re_v 10 rfl rfl (by walk_at "vis") | exact re_v 11 rfl rfl (by walk_at "vis")
  | exact re_v 12 rfl rfl (by walk_at "vis") | exact re_v 13 rfl rfl (by walk_at "vis") | exact re_v 14 rfl rfl (by walk_at "vis") | exact re_v 15 rfl rfl (by walk_at "vis")
  | exact re_v 16 rfl rfl (by walk_at "vis") | exact re_v 17 rfl rfl (by walk_at "vis") | exact re_v 18 rfl rfl (by walk_at "vis") | exact re_v 19 rfl rfl (by walk_at "vis"))
local macro_rules | `(tactic| walk_at "ix") => `(tactic| first | exact ix_tupD rfl | exact ix_lstD rfl | exact ix_wtD rfl)
local macro_rules | `(tactic| walk_at "len") => `(tactic| first | exact Nat.le_of_ble_eq_true rfl | assumption | (simp; done) | (simp; omega))
local macro_rules | `(tactic| walk_at "ra") => `(tactic| first | ((with_reducible show RA _ [] _ _ _ _); exact ra_nil) | ((with_reducible show RA _ (_ :: _) _ _ _ _); exact ra_cons (by walk_at "ev") (by walk_at "ra")))
local macro_rules | `(tactic| walk_at "bin") => `(tactic| first | exact bin_addI | exact bin_subI | exact bin_addT (by walk_at "len") | exact bin_addL (by walk_at "len"))
local macro_rules | `(tactic| walk_at "ev") => `(tactic| first
  | ((with_reducible show RE _ (Expr.Name _ _) _ _ _ _); walk_at "var")
  | ((with_reducible show RE _ (Expr.Constant _ _ _) _ _ _ _); first | exact re_int | exact re_str | exact re_bl | exact re_non)
  | ((with_reducible show RE _ (Expr.Tuple _ _ _) _ _ _ _); exact re_tup (by walk_at "ra") (by walk_at "len"))
  | ((with_reducible show RE _ (Expr.List _ _) _ _ _ _); exact re_lst (by walk_at "ra") (by walk_at "len"))
  | ((with_reducible show RE _ (Expr.Subscript _ _ _) _ _ _ _); exact re_sub (by walk_at "ev") (by walk_at "ev") (by walk_at "ix"))
  | ((with_reducible show RE _ (Expr.BinOp _ _ _ _) _ _ _ _); exact re_bin (by walk_at "ev") (by walk_at "ev") (by walk_at "bin"))
  | assumption)
def RMeant (k n : Nat) : List D → Own → D → Own → Prop := fun ds o d o' => ∃ (fr : Fr) (c : Cmd), FrOk fr ∧ 1 ≤ fr.length ∧ CmdOk k c fr ∧ c.depth ≤ n ∧ ds = [frD fr, c.D] ∧ d = tabD fr (meanC c fr) ∧ o' = o
theorem alts_D (fr : Fr) : ∀ a : Alts, ∃ L : List (Cnd × Cmd), a.Ds = L.map (fun p => D.tup [p.1.D, p.2.D]) ∧ innC a fr = L.map (fun p => (p.1, meanC p.2 fr)) ∧ L.length = a.len ∧ (∀ p ∈ L, p.2.depth ≤ a.depth) ∧ ∀ k, AltsOk k a fr → ∀ p ∈ L, CmdOk k p.2 fr
  | .nil => ⟨[], by rw [Alts.Ds]; rfl, by rw [innC]; rfl, rfl, fun _ h => (nomatch h), fun _ _ _ h => nomatch h⟩
  | .cons g c r => by
    obtain ⟨L, h1, h2, h3, h4, h5⟩ := alts_D fr r
    refine ⟨(g, c) :: L, by rw [Alts.Ds, h1]; rfl, by rw [innC, h2]; rfl, by rw [List.length_cons, h3]; rfl, fun p hp => ?_, fun k ho p hp => ?_⟩
    · rw [Alts.depth]
      rcases List.mem_cons.mp hp with e | hp
      · rw [e]; exact Nat.le_max_left _ _
      · exact Nat.le_trans (h4 p hp) (Nat.le_max_right _ _)
    · rw [AltsOk] at ho
      rcases List.mem_cons.mp hp with e | hp
      · rw [e]; exact ho.2.1
      · exact h5 k ho.2.2 p hp
section
variable {P : Program} {w : World} {K : PySem.W.Frag} {mg : Str → Option Value} {base : Heap} {f : Addr} {fd : FuncData}
theorem two_in {fr : Fr} {a b : Ends} (ha : EnOk fr a) (hb : EnOk fr b) : ∀ r ∈ [a, b], InS fr r := fun r hr => by
  rcases List.mem_cons.mp hr with e | hr
  · rw [e]; exact ha.inn
  · rw [List.mem_singleton.mp hr]; exact hb.inn
theorem two_ok {fr : Fr} {a b : Ends} (ha : EnOk fr a) (hb : EnOk fr b) : ∀ r ∈ [a, b], EnOk fr r := fun r hr => by
  rcases List.mem_cons.mp hr with e | hr
  · rw [e]; exact ha
  · rw [List.mem_singleton.mp hr]; exact hb
structure MeantNeeds (P : Program) (w : World) (K : PySem.W.Frag) (mg : Str → Option Value) (base : Heap) (k : Nat) : Prop where
  states : Has P w K mg base "states_of" 1 1 RStates
  holds : Has P w K mg base "holds" (k + 4) 4 (RHolds k)
  setEnd : Has P w K mg base "set_end" (k + 5) 3 (RSet k)
  spec : Has P w K mg base "spec_ends" (k + 5) 4 (RSpec k)
  both : Has P w K mg base "both_ends" 1 1 RBoth
  by' : Has P w K mg base "ends_by" 2 2 REndsBy
  ifM : Has P w K mg base "if_meant" (k + 5) 2 (RIf k)
  doM : Has P w K mg base "do_meant" (k + 5) 2 (RDo k)
theorem has_meant_of (F : Fun K "meant" "meant" s_meant f fd) (hm : mg "meant" = some (.ref f)) (B : Bi mg) (k n : Nat) (N : MeantNeeds P w K mg base k) (hrec : ∀ j, n = j + 1 → Has P w K mg base "meant" (2 * j + k + 6) 2 (RMeant k j) ∧ Has P w K mg base "local_meant" (2 * j + k + 7) 2 (RLocal (RMeant k j))) :
    Has P w K mg base "meant" (2 * n + k + 6) 2 (RMeant k n) := by
  refine has_mk (k := 2 * n + k + 5) F sc_meant hm (F.binds fun _ _ _ _ _ _ us hl => match us, hl with | [_, _], _ => rfl) (by rintro _ _ _ _ ⟨fr, c, _, _, _, _, rfl, _⟩; rfl) fun cdv A outer s0 H E ds o d o' hr hR => ?_
  obtain ⟨fr, c, hfr, hd, hok, hn, rfl, rfl, rfl⟩ := hR
  have h60 := hfr.le60
  have u65 := J.Room.u65 hr
  have u3 := J.Room.u3 hr
  have u1 := J.Room.u1 hr
  have nd := statesF_nodup fr
  have hr1 : Room 1 (A.deeper (envOfC "meant" (defScope s_meant) s0.heap.objs.size f cdv)) := hr.mono (by omega)
  have hr5 : Room (k + 5) (A.deeper (envOfC "meant" (defScope s_meant) s0.heap.objs.size f cdv)) := hr.mono (by omega)
  have hr4 : Room (k + 4) (A.deeper (envOfC "meant" (defScope s_meant) s0.heap.objs.size f cdv)) := hr.mono (by omega)
  cases c with
  | skip =>
    have hmn : meanC (.skip) fr = fun s => some [s] := funext fun s => by rw [meanC]
    rw [hmn]
    refine rb_cons (γ1 := [some (frD fr), some (Cmd.D (.skip)), some (.str "skip"), some (.lst ((statesF fr).map stD)), none, none, none, none, none, none]) (o1 := o') (rs_unp (re_tup (ra_cons (re_sub (by walk_at "var") re_int (ix_tupD rfl)) (ra_cons (re_call N.states hr1 (by walk_at "ra") (by exact ⟨fr, hfr, rfl, rfl, rfl⟩) rfl) ra_nil)) (by walk_at "len")) (rg_tup rfl (rgs_cons (rg_name 2 sc_meant.nd rfl (by walk_at "loc")) (rgs_cons (rg_name 3 sc_meant.nd rfl (by walk_at "loc")) rgs_nil)))) ?_
    exact rb_ret (rs_ifT (rt_cm (by walk_at "var") (by walk_at "ev") (cmp_inStr (L := ["skip", "abort", "magic"]) u65 .tup (by decide +kernel) (by decide +kernel) (by decide +kernel)) (by rfl)) (rb_one (rs_ret (re_tyc B.dict (ra_cons (re_l (d := .lst ((statesF fr).map fun s => .tup [stD s, endsD (some [s])])) (rl_map [("state", 7)] (statesF fr) stD (fun s => [some (frD fr), some (Cmd.D (.skip)), some (.str "skip"), some (.lst ((statesF fr).map stD)), none, none, none, some (stD s), none, none]) [7] _ rfl sc_meant.nd (ri_list (by walk_at "var")) (blkOk_by (N := n_meant) (sc := defScope s_meant) (by decide +kernel)) (fun s1 H1 C cl fp s hs => ⟨rg_name 7 sc_meant.nd rfl (by walk_at "loc"), re_tup (ra_cons (by walk_at "var") (ra_cons (re_pick (kk := .inr "skip") u1 (RPs.cons (kk := .inr "skip") (d := .tup [stD s]) (fun p hp => re_str) (fun p hp => re_tup (ra_cons (by walk_at "var") ra_nil) (by walk_at "len")) (RPs.cons (kk := .inr "abort") (d := .non) (fun p hp => re_str) (fun p hp => re_non) (RPs.cons (kk := .inr "magic") (d := .tup []) (fun p hp => re_str) (fun p hp => re_tup ra_nil (by walk_at "len")) RPs.nil))) (fun h => nomatch h) (by decide) (fun p hp => by walk_at "var") (by rfl)) ra_nil)) (by walk_at "len")⟩) (by decide) (by omega))) ra_nil) (ty_dictS rfl u3 nd)))))
  | abort =>
    have hmn : meanC (.abort) fr = fun s => none := funext fun s => by rw [meanC]
    rw [hmn]
    refine rb_cons (γ1 := [some (frD fr), some (Cmd.D (.abort)), some (.str "abort"), some (.lst ((statesF fr).map stD)), none, none, none, none, none, none]) (o1 := o') (rs_unp (re_tup (ra_cons (re_sub (by walk_at "var") re_int (ix_tupD rfl)) (ra_cons (re_call N.states hr1 (by walk_at "ra") (by exact ⟨fr, hfr, rfl, rfl, rfl⟩) rfl) ra_nil)) (by walk_at "len")) (rg_tup rfl (rgs_cons (rg_name 2 sc_meant.nd rfl (by walk_at "loc")) (rgs_cons (rg_name 3 sc_meant.nd rfl (by walk_at "loc")) rgs_nil)))) ?_
    exact rb_ret (rs_ifT (rt_cm (by walk_at "var") (by walk_at "ev") (cmp_inStr (L := ["skip", "abort", "magic"]) u65 .tup (by decide +kernel) (by decide +kernel) (by decide +kernel)) (by rfl)) (rb_one (rs_ret (re_tyc B.dict (ra_cons (re_l (d := .lst ((statesF fr).map fun s => .tup [stD s, endsD (none)])) (rl_map [("state", 7)] (statesF fr) stD (fun s => [some (frD fr), some (Cmd.D (.abort)), some (.str "abort"), some (.lst ((statesF fr).map stD)), none, none, none, some (stD s), none, none]) [7] _ rfl sc_meant.nd (ri_list (by walk_at "var")) (blkOk_by (N := n_meant) (sc := defScope s_meant) (by decide +kernel)) (fun s1 H1 C cl fp s hs => ⟨rg_name 7 sc_meant.nd rfl (by walk_at "loc"), re_tup (ra_cons (by walk_at "var") (ra_cons (re_pick (kk := .inr "abort") u1 (RPs.cons (kk := .inr "skip") (d := .tup [stD s]) (fun p hp => re_str) (fun p hp => re_tup (ra_cons (by walk_at "var") ra_nil) (by walk_at "len")) (RPs.cons (kk := .inr "abort") (d := .non) (fun p hp => re_str) (fun p hp => re_non) (RPs.cons (kk := .inr "magic") (d := .tup []) (fun p hp => re_str) (fun p hp => re_tup ra_nil (by walk_at "len")) RPs.nil))) (fun h => nomatch h) (by decide) (fun p hp => by walk_at "var") (by rfl)) ra_nil)) (by walk_at "len")⟩) (by decide) (by omega))) ra_nil) (ty_dictS rfl u3 nd)))))
  | magic =>
    have hmn : meanC (.magic) fr = fun s => some [] := funext fun s => by rw [meanC]
    rw [hmn]
    refine rb_cons (γ1 := [some (frD fr), some (Cmd.D (.magic)), some (.str "magic"), some (.lst ((statesF fr).map stD)), none, none, none, none, none, none]) (o1 := o') (rs_unp (re_tup (ra_cons (re_sub (by walk_at "var") re_int (ix_tupD rfl)) (ra_cons (re_call N.states hr1 (by walk_at "ra") (by exact ⟨fr, hfr, rfl, rfl, rfl⟩) rfl) ra_nil)) (by walk_at "len")) (rg_tup rfl (rgs_cons (rg_name 2 sc_meant.nd rfl (by walk_at "loc")) (rgs_cons (rg_name 3 sc_meant.nd rfl (by walk_at "loc")) rgs_nil)))) ?_
    exact rb_ret (rs_ifT (rt_cm (by walk_at "var") (by walk_at "ev") (cmp_inStr (L := ["skip", "abort", "magic"]) u65 .tup (by decide +kernel) (by decide +kernel) (by decide +kernel)) (by rfl)) (rb_one (rs_ret (re_tyc B.dict (ra_cons (re_l (d := .lst ((statesF fr).map fun s => .tup [stD s, endsD (some [])])) (rl_map [("state", 7)] (statesF fr) stD (fun s => [some (frD fr), some (Cmd.D (.magic)), some (.str "magic"), some (.lst ((statesF fr).map stD)), none, none, none, some (stD s), none, none]) [7] _ rfl sc_meant.nd (ri_list (by walk_at "var")) (blkOk_by (N := n_meant) (sc := defScope s_meant) (by decide +kernel)) (fun s1 H1 C cl fp s hs => ⟨rg_name 7 sc_meant.nd rfl (by walk_at "loc"), re_tup (ra_cons (by walk_at "var") (ra_cons (re_pick (kk := .inr "magic") u1 (RPs.cons (kk := .inr "skip") (d := .tup [stD s]) (fun p hp => re_str) (fun p hp => re_tup (ra_cons (by walk_at "var") ra_nil) (by walk_at "len")) (RPs.cons (kk := .inr "abort") (d := .non) (fun p hp => re_str) (fun p hp => re_non) (RPs.cons (kk := .inr "magic") (d := .tup []) (fun p hp => re_str) (fun p hp => re_tup ra_nil (by walk_at "len")) RPs.nil))) (fun h => nomatch h) (by decide) (fun p hp => by walk_at "var") (by rfl)) ra_nil)) (by walk_at "len")⟩) (by decide) (by omega))) ra_nil) (ty_dictS rfl u3 nd)))))
  | set ps =>
    rw [CmdOk] at hok
    have hmn : meanC (.set ps) fr = fun s => setE fr ps s := funext fun s => by rw [meanC]
    rw [hmn]
    refine rb_cons (γ1 := [some (frD fr), some (Cmd.D (.set ps)), some (.str "set"), some (.lst ((statesF fr).map stD)), none, none, none, none, none, none]) (o1 := o') (rs_unp (re_tup (ra_cons (re_sub (by walk_at "var") re_int (ix_tupD rfl)) (ra_cons (re_call N.states hr1 (by walk_at "ra") (by exact ⟨fr, hfr, rfl, rfl, rfl⟩) rfl) ra_nil)) (by walk_at "len")) (rg_tup rfl (rgs_cons (rg_name 2 sc_meant.nd rfl (by walk_at "loc")) (rgs_cons (rg_name 3 sc_meant.nd rfl (by walk_at "loc")) rgs_nil)))) ?_
    refine rb_cons (rs_ifF (rt_cm (by walk_at "var") (by walk_at "ev") (cmp_inStr (L := ["skip", "abort", "magic"]) u65 .tup (by decide +kernel) (by decide +kernel) (by decide +kernel)) (by rfl)) rb_nil) ?_
    exact rb_ret (rs_ifT (rt_cm (by walk_at "var") re_str cmp_eqS (nomark _)) (rb_one (rs_ret (re_tyc B.dict (ra_cons (re_l (d := .lst ((statesF fr).map fun s => .tup [stD s, endsD (setE fr ps s)])) (rl_map [("state", 7)] (statesF fr) stD (fun s => [some (frD fr), some (Cmd.D (.set ps)), some (.str "set"), some (.lst ((statesF fr).map stD)), none, none, none, some (stD s), none, none]) [7] _ rfl sc_meant.nd (ri_list (by walk_at "var")) (blkOk_by (N := n_meant) (sc := defScope s_meant) (by decide +kernel)) (fun s1 H1 C cl fp s hs => ⟨rg_name 7 sc_meant.nd rfl (by walk_at "loc"), re_tup (ra_cons (by walk_at "var") (ra_cons (re_call N.setEnd hr5 (by exact ra_cons (by walk_at "var") (ra_cons (by walk_at "ev") (ra_cons (by walk_at "var") ra_nil))) (by exact ⟨fr, ps, s, hfr.nm, statesF_len hs, hok s hs, rfl, rfl, rfl⟩) rfl) ra_nil)) (by walk_at "len")⟩) (by decide) (by omega))) ra_nil) (ty_dictS rfl u3 nd)))))
  | spec ns pre post =>
    rw [CmdOk] at hok
    have hmn : meanC (.spec ns pre post) fr = fun s => specE fr ns pre post s := funext fun s => by rw [meanC]
    rw [hmn]
    refine rb_cons (γ1 := [some (frD fr), some (Cmd.D (.spec ns pre post)), some (.str "spec"), some (.lst ((statesF fr).map stD)), none, none, none, none, none, none]) (o1 := o') (rs_unp (re_tup (ra_cons (re_sub (by walk_at "var") re_int (ix_tupD rfl)) (ra_cons (re_call N.states hr1 (by walk_at "ra") (by exact ⟨fr, hfr, rfl, rfl, rfl⟩) rfl) ra_nil)) (by walk_at "len")) (rg_tup rfl (rgs_cons (rg_name 2 sc_meant.nd rfl (by walk_at "loc")) (rgs_cons (rg_name 3 sc_meant.nd rfl (by walk_at "loc")) rgs_nil)))) ?_
    refine rb_cons (rs_ifF (rt_cm (by walk_at "var") (by walk_at "ev") (cmp_inStr (L := ["skip", "abort", "magic"]) u65 .tup (by decide +kernel) (by decide +kernel) (by decide +kernel)) (by rfl)) rb_nil) ?_
    refine rb_cons (rs_ifF (rt_cm (by walk_at "var") re_str cmp_eqS (nomark _)) rb_nil) ?_
    exact rb_ret (rs_ifT (rt_cm (by walk_at "var") re_str cmp_eqS (nomark _)) (rb_one (rs_ret (re_tyc B.dict (ra_cons (re_l (d := .lst ((statesF fr).map fun s => .tup [stD s, endsD (specE fr ns pre post s)])) (rl_map [("state", 7)] (statesF fr) stD (fun s => [some (frD fr), some (Cmd.D (.spec ns pre post)), some (.str "spec"), some (.lst ((statesF fr).map stD)), none, none, none, some (stD s), none, none]) [7] _ rfl sc_meant.nd (ri_list (by walk_at "var")) (blkOk_by (N := n_meant) (sc := defScope s_meant) (by decide +kernel)) (fun s1 H1 C cl fp s hs => ⟨rg_name 7 sc_meant.nd rfl (by walk_at "loc"), re_tup (ra_cons (by walk_at "var") (ra_cons (re_call N.spec hr5 (by exact ra_cons (by walk_at "var") (ra_cons (by walk_at "var") (ra_cons (by walk_at "var") (ra_cons (by walk_at "var") ra_nil)))) (by exact ⟨fr, ns, pre, post, s, hfr.nm, hfr, hok, hs, rfl, rfl, rfl⟩) rfl) ra_nil)) (by walk_at "len")⟩) (by decide) (by omega))) ra_nil) (ty_dictS rfl u3 nd)))))
  | assert c =>
    rw [CmdOk] at hok
    have hmn : meanC (.assert c) fr = fun s => if holdsC fr s none c = true then some [s] else none := funext fun s => by rw [meanC]
    rw [hmn]
    refine rb_cons (γ1 := [some (frD fr), some (Cmd.D (.assert c)), some (.str "assert"), some (.lst ((statesF fr).map stD)), none, none, none, none, none, none]) (o1 := o') (rs_unp (re_tup (ra_cons (re_sub (by walk_at "var") re_int (ix_tupD rfl)) (ra_cons (re_call N.states hr1 (by walk_at "ra") (by exact ⟨fr, hfr, rfl, rfl, rfl⟩) rfl) ra_nil)) (by walk_at "len")) (rg_tup rfl (rgs_cons (rg_name 2 sc_meant.nd rfl (by walk_at "loc")) (rgs_cons (rg_name 3 sc_meant.nd rfl (by walk_at "loc")) rgs_nil)))) ?_
    refine rb_cons (rs_ifF (rt_cm (by walk_at "var") (by walk_at "ev") (cmp_inStr (L := ["skip", "abort", "magic"]) u65 .tup (by decide +kernel) (by decide +kernel) (by decide +kernel)) (by rfl)) rb_nil) ?_
    refine rb_cons (rs_ifF (rt_cm (by walk_at "var") re_str cmp_eqS (nomark _)) rb_nil) ?_
    refine rb_cons (rs_ifF (rt_cm (by walk_at "var") re_str cmp_eqS (nomark _)) rb_nil) ?_
    refine rb_ret (rs_ifT (rt_cm (by walk_at "var") (by walk_at "ev") (cmp_inStr (L := ["assert", "assume"]) u65 .tup (by decide +kernel) (by decide +kernel) (by decide +kernel)) (by rfl)) (rb_cons (γ1 := [some (frD fr), some (Cmd.D (.assert c)), some (.str "assert"), some (.lst ((statesF fr).map stD)), some (endsD (none)), none, none, none, none, none]) (o1 := o') (rs_set (d := endsD (none)) 4 sc_meant.nd rfl (by walk_at "loc") (re_ifT (rt_cm (by walk_at "var") re_str cmp_eqS (nomark _)) re_non)) (rb_one (rs_ret (re_tyc B.dict (ra_cons (re_l (d := .lst ((statesF fr).map fun s => .tup [stD s, endsD (if holdsC fr s none c = true then some [s] else none)])) (rl_map [("state", 7)] (statesF fr) stD (fun s => [some (frD fr), some (Cmd.D (.assert c)), some (.str "assert"), some (.lst ((statesF fr).map stD)), some (endsD (none)), none, none, some (stD s), none, none]) [7] _ rfl sc_meant.nd (ri_list (by walk_at "var")) (blkOk_by (N := n_meant) (sc := defScope s_meant) (by decide +kernel)) (fun s1 H1 C cl fp s hs => ⟨rg_name 7 sc_meant.nd rfl (by walk_at "loc"), re_tup (ra_cons (by walk_at "var") (ra_cons (re_ifB (rt_val (re_call N.holds hr4 (by exact ra_cons (by walk_at "var") (ra_cons (by walk_at "var") (ra_cons re_non (ra_cons (by walk_at "ev") ra_nil)))) (by exact ⟨fr, s, none, c, hfr.nm, statesF_len hs, hok.1 s hs, hok.2, rfl, rfl, rfl⟩) rfl)) (fun e => re_eq (re_tup (ra_cons (by walk_at "var") ra_nil) (by walk_at "len")) (by rw [if_pos e]; rfl)) (fun e => re_eq (by walk_at "var") (by rw [if_neg (by rw [e]; exact Bool.false_ne_true)]))) ra_nil)) (by walk_at "len")⟩) (by decide) (by omega))) ra_nil) (ty_dictS rfl u3 nd))))))
  | assume c =>
    rw [CmdOk] at hok
    have hmn : meanC (.assume c) fr = fun s => if holdsC fr s none c = true then some [s] else some [] := funext fun s => by rw [meanC]
    rw [hmn]
    refine rb_cons (γ1 := [some (frD fr), some (Cmd.D (.assume c)), some (.str "assume"), some (.lst ((statesF fr).map stD)), none, none, none, none, none, none]) (o1 := o') (rs_unp (re_tup (ra_cons (re_sub (by walk_at "var") re_int (ix_tupD rfl)) (ra_cons (re_call N.states hr1 (by walk_at "ra") (by exact ⟨fr, hfr, rfl, rfl, rfl⟩) rfl) ra_nil)) (by walk_at "len")) (rg_tup rfl (rgs_cons (rg_name 2 sc_meant.nd rfl (by walk_at "loc")) (rgs_cons (rg_name 3 sc_meant.nd rfl (by walk_at "loc")) rgs_nil)))) ?_
    refine rb_cons (rs_ifF (rt_cm (by walk_at "var") (by walk_at "ev") (cmp_inStr (L := ["skip", "abort", "magic"]) u65 .tup (by decide +kernel) (by decide +kernel) (by decide +kernel)) (by rfl)) rb_nil) ?_
    refine rb_cons (rs_ifF (rt_cm (by walk_at "var") re_str cmp_eqS (nomark _)) rb_nil) ?_
    refine rb_cons (rs_ifF (rt_cm (by walk_at "var") re_str cmp_eqS (nomark _)) rb_nil) ?_
    refine rb_ret (rs_ifT (rt_cm (by walk_at "var") (by walk_at "ev") (cmp_inStr (L := ["assert", "assume"]) u65 .tup (by decide +kernel) (by decide +kernel) (by decide +kernel)) (by rfl)) (rb_cons (γ1 := [some (frD fr), some (Cmd.D (.assume c)), some (.str "assume"), some (.lst ((statesF fr).map stD)), some (endsD (some [])), none, none, none, none, none]) (o1 := o') (rs_set (d := endsD (some [])) 4 sc_meant.nd rfl (by walk_at "loc") (re_ifF (rt_cm (by walk_at "var") re_str cmp_eqS (nomark _)) (re_tup ra_nil (by walk_at "len")))) (rb_one (rs_ret (re_tyc B.dict (ra_cons (re_l (d := .lst ((statesF fr).map fun s => .tup [stD s, endsD (if holdsC fr s none c = true then some [s] else some [])])) (rl_map [("state", 7)] (statesF fr) stD (fun s => [some (frD fr), some (Cmd.D (.assume c)), some (.str "assume"), some (.lst ((statesF fr).map stD)), some (endsD (some [])), none, none, some (stD s), none, none]) [7] _ rfl sc_meant.nd (ri_list (by walk_at "var")) (blkOk_by (N := n_meant) (sc := defScope s_meant) (by decide +kernel)) (fun s1 H1 C cl fp s hs => ⟨rg_name 7 sc_meant.nd rfl (by walk_at "loc"), re_tup (ra_cons (by walk_at "var") (ra_cons (re_ifB (rt_val (re_call N.holds hr4 (by exact ra_cons (by walk_at "var") (ra_cons (by walk_at "var") (ra_cons re_non (ra_cons (by walk_at "ev") ra_nil)))) (by exact ⟨fr, s, none, c, hfr.nm, statesF_len hs, hok.1 s hs, hok.2, rfl, rfl, rfl⟩) rfl)) (fun e => re_eq (re_tup (ra_cons (by walk_at "var") ra_nil) (by walk_at "len")) (by rw [if_pos e]; rfl)) (fun e => re_eq (by walk_at "var") (by rw [if_neg (by rw [e]; exact Bool.false_ne_true)]))) ra_nil)) (by walk_at "len")⟩) (by decide) (by omega))) ra_nil) (ty_dictS rfl u3 nd))))))
  | seq a b =>
    rw [CmdOk] at hok
    obtain ⟨j, rfl⟩ : ∃ j, n = j + 1 := ⟨n - 1, by have : 1 ≤ n := Nat.le_trans (Nat.succ_le_succ (Nat.zero_le _)) (by rw [Cmd.depth] at hn; exact hn); omega⟩
    rw [Cmd.depth] at hn
    obtain ⟨hM, _⟩ := hrec j rfl
    have hrj : Room (2 * j + k + 6) (A.deeper (envOfC "meant" (defScope s_meant) s0.heap.objs.size f cdv)) := hr.mono (by omega)
    have da : a.depth ≤ j := Nat.le_trans (Nat.le_max_left _ _) (Nat.le_of_succ_le_succ hn)
    have db : b.depth ≤ j := Nat.le_trans (Nat.le_max_right _ _) (Nat.le_of_succ_le_succ hn)
    have ga := meanC_ok hfr hok.1
    have gb := meanC_ok hfr hok.2
    have hmn : meanC (.seq a b) fr = fun s => (meanC a fr s).bind fun L => bothE (L.map (meanC b fr)) := funext fun s => by rw [meanC]
    rw [hmn]
    refine rb_cons (γ1 := [some (frD fr), some (Cmd.D (.seq a b)), some (.str "then"), some (.lst ((statesF fr).map stD)), none, none, none, none, none, none]) (o1 := o') (rs_unp (re_tup (ra_cons (re_sub (by walk_at "var") re_int (ix_tupD rfl)) (ra_cons (re_call N.states hr1 (by walk_at "ra") (by exact ⟨fr, hfr, rfl, rfl, rfl⟩) rfl) ra_nil)) (by walk_at "len")) (rg_tup rfl (rgs_cons (rg_name 2 sc_meant.nd rfl (by walk_at "loc")) (rgs_cons (rg_name 3 sc_meant.nd rfl (by walk_at "loc")) rgs_nil)))) ?_
    refine rb_cons (rs_ifF (rt_cm (by walk_at "var") (by walk_at "ev") (cmp_inStr (L := ["skip", "abort", "magic"]) u65 .tup (by decide +kernel) (by decide +kernel) (by decide +kernel)) (by rfl)) rb_nil) ?_
    refine rb_cons (rs_ifF (rt_cm (by walk_at "var") re_str cmp_eqS (nomark _)) rb_nil) ?_
    refine rb_cons (rs_ifF (rt_cm (by walk_at "var") re_str cmp_eqS (nomark _)) rb_nil) ?_
    refine rb_cons (rs_ifF (rt_cm (by walk_at "var") (by walk_at "ev") (cmp_inStr (L := ["assert", "assume"]) u65 .tup (by decide +kernel) (by decide +kernel) (by decide +kernel)) (by rfl)) rb_nil) ?_
    refine rb_ret (rs_ifT (rt_cm (by walk_at "var") re_str cmp_eqS (nomark _)) (rb_cons (γ1 := [some (frD fr), some (Cmd.D (.seq a b)), some (.str "then"), some (.lst ((statesF fr).map stD)), some (tabD fr (meanC b fr)), some (tabD fr (meanC a fr)), none, none, none, none]) (o1 := o') (rs_unp (re_tup (ra_cons (re_call hM hrj (by exact ra_cons (by walk_at "var") (ra_cons (by walk_at "ev") ra_nil)) (by exact ⟨fr, a, hfr, hd, hok.1, da, rfl, rfl, rfl⟩) rfl) (ra_cons (re_call hM hrj (by exact ra_cons (by walk_at "var") (ra_cons (by walk_at "ev") ra_nil)) (by exact ⟨fr, b, hfr, hd, hok.2, db, rfl, rfl, rfl⟩) rfl) ra_nil)) (by walk_at "len")) (rg_tup rfl (rgs_cons (rg_name 5 sc_meant.nd rfl (by walk_at "loc")) (rgs_cons (rg_name 4 sc_meant.nd rfl (by walk_at "loc")) rgs_nil)))) (rb_one (rs_ret (re_tyc B.dict (ra_cons (re_l (d := .lst ((statesF fr).map fun s => .tup [stD s, endsD ((meanC a fr s).bind fun L => bothE (L.map (meanC b fr)))])) (rl_map [("state", 7)] (statesF fr) stD (fun s => [some (frD fr), some (Cmd.D (.seq a b)), some (.str "then"), some (.lst ((statesF fr).map stD)), some (tabD fr (meanC b fr)), some (tabD fr (meanC a fr)), none, some (stD s), none, none]) [7] _ rfl sc_meant.nd (ri_list (by walk_at "var")) (blkOk_by (N := n_meant) (sc := defScope s_meant) (by decide +kernel)) (fun s1 H1 C cl fp s hs => ⟨rg_name 7 sc_meant.nd rfl (by walk_at "loc"), re_tup (ra_cons (by walk_at "var") (ra_cons (re_call N.by' (hr.mono (by omega)) (by exact ra_cons (re_tabAt u1 (by walk_at "var") (by walk_at "var") hs) (ra_cons (by walk_at "var") ra_nil)) (by exact ⟨fr, meanC a fr s, meanC b fr, hfr, hd, (ga s hs).inn, fun t ht => (gb t ht).inn, (ga s hs).few, fun t ht => (gb t ht).few, rfl, rfl, rfl⟩) rfl) ra_nil)) (by walk_at "len")⟩) (by decide) (by omega))) ra_nil) (ty_dictS rfl u3 nd))))))
  | any a b =>
    rw [CmdOk] at hok
    obtain ⟨j, rfl⟩ : ∃ j, n = j + 1 := ⟨n - 1, by have : 1 ≤ n := Nat.le_trans (Nat.succ_le_succ (Nat.zero_le _)) (by rw [Cmd.depth] at hn; exact hn); omega⟩
    rw [Cmd.depth] at hn
    obtain ⟨hM, _⟩ := hrec j rfl
    have hrj : Room (2 * j + k + 6) (A.deeper (envOfC "meant" (defScope s_meant) s0.heap.objs.size f cdv)) := hr.mono (by omega)
    have da : a.depth ≤ j := Nat.le_trans (Nat.le_max_left _ _) (Nat.le_of_succ_le_succ hn)
    have db : b.depth ≤ j := Nat.le_trans (Nat.le_max_right _ _) (Nat.le_of_succ_le_succ hn)
    have ga := meanC_ok hfr hok.1
    have gb := meanC_ok hfr hok.2
    have hmn : meanC (.any a b) fr = fun s => bothE [meanC a fr s, meanC b fr s] := funext fun s => by rw [meanC]
    rw [hmn]
    refine rb_cons (γ1 := [some (frD fr), some (Cmd.D (.any a b)), some (.str "any"), some (.lst ((statesF fr).map stD)), none, none, none, none, none, none]) (o1 := o') (rs_unp (re_tup (ra_cons (re_sub (by walk_at "var") re_int (ix_tupD rfl)) (ra_cons (re_call N.states hr1 (by walk_at "ra") (by exact ⟨fr, hfr, rfl, rfl, rfl⟩) rfl) ra_nil)) (by walk_at "len")) (rg_tup rfl (rgs_cons (rg_name 2 sc_meant.nd rfl (by walk_at "loc")) (rgs_cons (rg_name 3 sc_meant.nd rfl (by walk_at "loc")) rgs_nil)))) ?_
    refine rb_cons (rs_ifF (rt_cm (by walk_at "var") (by walk_at "ev") (cmp_inStr (L := ["skip", "abort", "magic"]) u65 .tup (by decide +kernel) (by decide +kernel) (by decide +kernel)) (by rfl)) rb_nil) ?_
    refine rb_cons (rs_ifF (rt_cm (by walk_at "var") re_str cmp_eqS (nomark _)) rb_nil) ?_
    refine rb_cons (rs_ifF (rt_cm (by walk_at "var") re_str cmp_eqS (nomark _)) rb_nil) ?_
    refine rb_cons (rs_ifF (rt_cm (by walk_at "var") (by walk_at "ev") (cmp_inStr (L := ["assert", "assume"]) u65 .tup (by decide +kernel) (by decide +kernel) (by decide +kernel)) (by rfl)) rb_nil) ?_
    refine rb_cons (rs_ifF (rt_cm (by walk_at "var") re_str cmp_eqS (nomark _)) rb_nil) ?_
    refine rb_ret (rs_ifT (rt_cm (by walk_at "var") re_str cmp_eqS (nomark _)) (rb_cons (γ1 := [some (frD fr), some (Cmd.D (.any a b)), some (.str "any"), some (.lst ((statesF fr).map stD)), some (tabD fr (meanC b fr)), some (tabD fr (meanC a fr)), none, none, none, none]) (o1 := o') (rs_unp (re_tup (ra_cons (re_call hM hrj (by exact ra_cons (by walk_at "var") (ra_cons (by walk_at "ev") ra_nil)) (by exact ⟨fr, a, hfr, hd, hok.1, da, rfl, rfl, rfl⟩) rfl) (ra_cons (re_call hM hrj (by exact ra_cons (by walk_at "var") (ra_cons (by walk_at "ev") ra_nil)) (by exact ⟨fr, b, hfr, hd, hok.2, db, rfl, rfl, rfl⟩) rfl) ra_nil)) (by walk_at "len")) (rg_tup rfl (rgs_cons (rg_name 5 sc_meant.nd rfl (by walk_at "loc")) (rgs_cons (rg_name 4 sc_meant.nd rfl (by walk_at "loc")) rgs_nil)))) (rb_one (rs_ret (re_tyc B.dict (ra_cons (re_l (d := .lst ((statesF fr).map fun s => .tup [stD s, endsD (bothE [meanC a fr s, meanC b fr s])])) (rl_map [("state", 7)] (statesF fr) stD (fun s => [some (frD fr), some (Cmd.D (.any a b)), some (.str "any"), some (.lst ((statesF fr).map stD)), some (tabD fr (meanC b fr)), some (tabD fr (meanC a fr)), none, some (stD s), none, none]) [7] _ rfl sc_meant.nd (ri_list (by walk_at "var")) (blkOk_by (N := n_meant) (sc := defScope s_meant) (by decide +kernel)) (fun s1 H1 C cl fp s hs => ⟨rg_name 7 sc_meant.nd rfl (by walk_at "loc"), re_tup (ra_cons (by walk_at "var") (ra_cons (re_call N.both hr1 (by exact ra_cons (re_lst (ra_cons (re_tabAt u1 (by walk_at "var") (by walk_at "var") hs) (ra_cons (re_tabAt u1 (by walk_at "var") (by walk_at "var") hs) ra_nil)) (by walk_at "len")) ra_nil) (by exact ⟨fr, [meanC a fr s, meanC b fr s], hfr, hd, two_in (ga s hs) (gb s hs), rows_sum (two_ok (ga s hs) (gb s hs)) (by walk_at "len"), by walk_at "len", rfl, rfl, rfl⟩) rfl) ra_nil)) (by walk_at "len")⟩) (by decide) (by omega))) ra_nil) (ty_dictS rfl u3 nd))))))
  | var r b =>
    rw [CmdOk] at hok
    obtain ⟨j, rfl⟩ : ∃ j, n = j + 1 := ⟨n - 1, by have : 1 ≤ n := Nat.le_trans (Nat.succ_le_succ (Nat.zero_le _)) (by rw [Cmd.depth] at hn; exact hn); omega⟩
    rw [Cmd.depth] at hn
    obtain ⟨_, hL⟩ := hrec j rfl
    have hrj : Room (2 * j + k + 7) (A.deeper (envOfC "meant" (defScope s_meant) s0.heap.objs.size f cdv)) := hr.mono (by omega)
    have hp : 1 ≤ (insF r fr).length := by rw [(insF_perm r fr).length_eq, List.length_append]; exact Nat.le_add_left 1 _
    have hmn : meanC (.var r b) fr = varE fr r (meanC b (insF r fr)) := funext fun s => by rw [meanC]
    rw [hmn]
    refine rb_cons (γ1 := [some (frD fr), some (Cmd.D (.var r b)), some (.str "var"), some (.lst ((statesF fr).map stD)), none, none, none, none, none, none]) (o1 := o') (rs_unp (re_tup (ra_cons (re_sub (by walk_at "var") re_int (ix_tupD rfl)) (ra_cons (re_call N.states hr1 (by walk_at "ra") (by exact ⟨fr, hfr, rfl, rfl, rfl⟩) rfl) ra_nil)) (by walk_at "len")) (rg_tup rfl (rgs_cons (rg_name 2 sc_meant.nd rfl (by walk_at "loc")) (rgs_cons (rg_name 3 sc_meant.nd rfl (by walk_at "loc")) rgs_nil)))) ?_
    refine rb_cons (rs_ifF (rt_cm (by walk_at "var") (by walk_at "ev") (cmp_inStr (L := ["skip", "abort", "magic"]) u65 .tup (by decide +kernel) (by decide +kernel) (by decide +kernel)) (by rfl)) rb_nil) ?_
    refine rb_cons (rs_ifF (rt_cm (by walk_at "var") re_str cmp_eqS (nomark _)) rb_nil) ?_
    refine rb_cons (rs_ifF (rt_cm (by walk_at "var") re_str cmp_eqS (nomark _)) rb_nil) ?_
    refine rb_cons (rs_ifF (rt_cm (by walk_at "var") (by walk_at "ev") (cmp_inStr (L := ["assert", "assume"]) u65 .tup (by decide +kernel) (by decide +kernel) (by decide +kernel)) (by rfl)) rb_nil) ?_
    refine rb_cons (rs_ifF (rt_cm (by walk_at "var") re_str cmp_eqS (nomark _)) rb_nil) ?_
    refine rb_cons (rs_ifF (rt_cm (by walk_at "var") re_str cmp_eqS (nomark _)) rb_nil) ?_
    exact rb_ret (rs_ifT (rt_cm (by walk_at "var") re_str cmp_eqS (nomark _)) (rb_one (rs_ret (re_call hL hrj (by exact ra_cons (by walk_at "var") (ra_cons (by walk_at "var") ra_nil)) (by exact ⟨fr, r, b.D, meanC b (insF r fr), hok.1, meanC_ok hok.1.inn hok.2, fun o => ⟨insF r fr, b, hok.1.inn, hp, hok.2, Nat.le_of_succ_le_succ hn, rfl, rfl, rfl⟩, rfl, rfl, rfl⟩) rfl))))
  | ite a =>
    rw [CmdOk] at hok
    obtain ⟨j, rfl⟩ : ∃ j, n = j + 1 := ⟨n - 1, by have : 1 ≤ n := Nat.le_trans (Nat.succ_le_succ (Nat.zero_le _)) (by rw [Cmd.depth] at hn; exact hn); omega⟩
    rw [Cmd.depth] at hn
    obtain ⟨hM, _⟩ := hrec j rfl
    have hrj : Room (2 * j + k + 6) (A.deeper (envOfC "meant" (defScope s_meant) s0.heap.objs.size f cdv)) := hr.mono (by omega)
    have da : a.depth ≤ j := Nat.le_of_succ_le_succ hn
    have hi := innC_ok hfr hok.1 hok.2
    obtain ⟨L, hD, hI, hlen, hdep, hcok⟩ := alts_D fr a
    have hmn : meanC (.ite a) fr = ifE fr (innC a fr) := funext fun s => by rw [meanC]
    rw [hmn]
    have hcD : (Cmd.ite a).D = .tup [.str "if", .tup (L.map fun p : Cnd × Cmd => D.tup [p.1.D, p.2.D])] := by rw [Cmd.D, hD]
    rw [hcD]
    refine rb_cons (γ1 := [some (frD fr), some (.tup [.str "if", .tup (L.map fun p : Cnd × Cmd => D.tup [p.1.D, p.2.D])]), some (.str "if"), some (.lst ((statesF fr).map stD)), none, none, none, none, none, none]) (o1 := o') (rs_unp (re_tup (ra_cons (re_sub (by walk_at "var") re_int (ix_tupD rfl)) (ra_cons (re_call N.states hr1 (by walk_at "ra") (by exact ⟨fr, hfr, rfl, rfl, rfl⟩) rfl) ra_nil)) (by walk_at "len")) (rg_tup rfl (rgs_cons (rg_name 2 sc_meant.nd rfl (by walk_at "loc")) (rgs_cons (rg_name 3 sc_meant.nd rfl (by walk_at "loc")) rgs_nil)))) ?_
    refine rb_cons (rs_ifF (rt_cm (by walk_at "var") (by walk_at "ev") (cmp_inStr (L := ["skip", "abort", "magic"]) u65 .tup (by decide +kernel) (by decide +kernel) (by decide +kernel)) (by rfl)) rb_nil) ?_
    refine rb_cons (rs_ifF (rt_cm (by walk_at "var") re_str cmp_eqS (nomark _)) rb_nil) ?_
    refine rb_cons (rs_ifF (rt_cm (by walk_at "var") re_str cmp_eqS (nomark _)) rb_nil) ?_
    refine rb_cons (rs_ifF (rt_cm (by walk_at "var") (by walk_at "ev") (cmp_inStr (L := ["assert", "assume"]) u65 .tup (by decide +kernel) (by decide +kernel) (by decide +kernel)) (by rfl)) rb_nil) ?_
    refine rb_cons (rs_ifF (rt_cm (by walk_at "var") re_str cmp_eqS (nomark _)) rb_nil) ?_
    refine rb_cons (rs_ifF (rt_cm (by walk_at "var") re_str cmp_eqS (nomark _)) rb_nil) ?_
    refine rb_cons (rs_ifF (rt_cm (by walk_at "var") re_str cmp_eqS (nomark _)) rb_nil) ?_
    refine rb_cons (γ1 := [some (frD fr), some (.tup [.str "if", .tup (L.map fun p : Cnd × Cmd => D.tup [p.1.D, p.2.D])]), some (.str "if"), some (.lst ((statesF fr).map stD)), none, none, some (innD fr (innC a fr)), none, none, none]) (o1 := o') (rs_setL (d := innD fr (innC a fr)) (o1 := o') 6 sc_meant.nd rfl rfl (rl_eq (rl_map [("guard", 8), ("own", 9)] L (fun p : Cnd × Cmd => D.tup [p.1.D, p.2.D]) (fun v : Cnd × Cmd => [some (frD fr), some (.tup [.str "if", .tup (L.map fun p : Cnd × Cmd => D.tup [p.1.D, p.2.D])]), some (.str "if"), some (.lst ((statesF fr).map stD)), none, none, none, none, some v.1.D, some v.2.D]) [8, 9] (fun v : Cnd × Cmd => D.tup [v.1.D, tabD fr (meanC v.2 fr)]) rfl sc_meant.nd (ri_tup (by walk_at "ev")) (blkOk_by (N := n_meant) (sc := defScope s_meant) (by decide +kernel)) (fun s1 H1 C cl fp v hv => ⟨rg_tup rfl (rgs_cons (rg_name 8 sc_meant.nd rfl (by walk_at "loc")) (rgs_cons (rg_name 9 sc_meant.nd rfl (by walk_at "loc")) rgs_nil)), re_tup (ra_cons (by walk_at "var") (ra_cons (by exact re_call hM hrj (by exact ra_cons (by walk_at "var") (ra_cons (by walk_at "var") ra_nil)) (by exact ⟨fr, v.2, hfr, hd, hcok k hok.1 v hv, Nat.le_trans (hdep v hv) da, rfl, rfl, rfl⟩) rfl) ra_nil)) (by walk_at "len")⟩) (by decide) (by rw [hlen]; exact Nat.le_trans hok.2 (by decide))) (by unfold innD; rw [hI, List.map_map]; rfl)) rfl) ?_
    exact rb_one (rs_ret (re_ifT (rt_cm (by walk_at "var") re_str cmp_eqS (nomark _)) (re_call N.ifM hr5 (by exact ra_cons (by walk_at "var") (ra_cons (by walk_at "var") ra_nil)) (by exact ⟨fr, innC a fr, hfr, hd, hi, rfl, rfl, rfl⟩) rfl)))
  | doo a =>
    rw [CmdOk] at hok
    obtain ⟨j, rfl⟩ : ∃ j, n = j + 1 := ⟨n - 1, by have : 1 ≤ n := Nat.le_trans (Nat.succ_le_succ (Nat.zero_le _)) (by rw [Cmd.depth] at hn; exact hn); omega⟩
    rw [Cmd.depth] at hn
    obtain ⟨hM, _⟩ := hrec j rfl
    have hrj : Room (2 * j + k + 6) (A.deeper (envOfC "meant" (defScope s_meant) s0.heap.objs.size f cdv)) := hr.mono (by omega)
    have da : a.depth ≤ j := Nat.le_of_succ_le_succ hn
    have hi := innC_ok hfr hok.1 hok.2
    obtain ⟨L, hD, hI, hlen, hdep, hcok⟩ := alts_D fr a
    have hmn : meanC (.doo a) fr = doE fr (innC a fr) := funext fun s => by rw [meanC]
    rw [hmn]
    have hcD : (Cmd.doo a).D = .tup [.str "do", .tup (L.map fun p : Cnd × Cmd => D.tup [p.1.D, p.2.D])] := by rw [Cmd.D, hD]
    rw [hcD]
    refine rb_cons (γ1 := [some (frD fr), some (.tup [.str "do", .tup (L.map fun p : Cnd × Cmd => D.tup [p.1.D, p.2.D])]), some (.str "do"), some (.lst ((statesF fr).map stD)), none, none, none, none, none, none]) (o1 := o') (rs_unp (re_tup (ra_cons (re_sub (by walk_at "var") re_int (ix_tupD rfl)) (ra_cons (re_call N.states hr1 (by walk_at "ra") (by exact ⟨fr, hfr, rfl, rfl, rfl⟩) rfl) ra_nil)) (by walk_at "len")) (rg_tup rfl (rgs_cons (rg_name 2 sc_meant.nd rfl (by walk_at "loc")) (rgs_cons (rg_name 3 sc_meant.nd rfl (by walk_at "loc")) rgs_nil)))) ?_
    refine rb_cons (rs_ifF (rt_cm (by walk_at "var") (by walk_at "ev") (cmp_inStr (L := ["skip", "abort", "magic"]) u65 .tup (by decide +kernel) (by decide +kernel) (by decide +kernel)) (by rfl)) rb_nil) ?_
    refine rb_cons (rs_ifF (rt_cm (by walk_at "var") re_str cmp_eqS (nomark _)) rb_nil) ?_
    refine rb_cons (rs_ifF (rt_cm (by walk_at "var") re_str cmp_eqS (nomark _)) rb_nil) ?_
    refine rb_cons (rs_ifF (rt_cm (by walk_at "var") (by walk_at "ev") (cmp_inStr (L := ["assert", "assume"]) u65 .tup (by decide +kernel) (by decide +kernel) (by decide +kernel)) (by rfl)) rb_nil) ?_
    refine rb_cons (rs_ifF (rt_cm (by walk_at "var") re_str cmp_eqS (nomark _)) rb_nil) ?_
    refine rb_cons (rs_ifF (rt_cm (by walk_at "var") re_str cmp_eqS (nomark _)) rb_nil) ?_
    refine rb_cons (rs_ifF (rt_cm (by walk_at "var") re_str cmp_eqS (nomark _)) rb_nil) ?_
    refine rb_cons (γ1 := [some (frD fr), some (.tup [.str "do", .tup (L.map fun p : Cnd × Cmd => D.tup [p.1.D, p.2.D])]), some (.str "do"), some (.lst ((statesF fr).map stD)), none, none, some (innD fr (innC a fr)), none, none, none]) (o1 := o') (rs_setL (d := innD fr (innC a fr)) (o1 := o') 6 sc_meant.nd rfl rfl (rl_eq (rl_map [("guard", 8), ("own", 9)] L (fun p : Cnd × Cmd => D.tup [p.1.D, p.2.D]) (fun v : Cnd × Cmd => [some (frD fr), some (.tup [.str "do", .tup (L.map fun p : Cnd × Cmd => D.tup [p.1.D, p.2.D])]), some (.str "do"), some (.lst ((statesF fr).map stD)), none, none, none, none, some v.1.D, some v.2.D]) [8, 9] (fun v : Cnd × Cmd => D.tup [v.1.D, tabD fr (meanC v.2 fr)]) rfl sc_meant.nd (ri_tup (by walk_at "ev")) (blkOk_by (N := n_meant) (sc := defScope s_meant) (by decide +kernel)) (fun s1 H1 C cl fp v hv => ⟨rg_tup rfl (rgs_cons (rg_name 8 sc_meant.nd rfl (by walk_at "loc")) (rgs_cons (rg_name 9 sc_meant.nd rfl (by walk_at "loc")) rgs_nil)), re_tup (ra_cons (by walk_at "var") (ra_cons (by exact re_call hM hrj (by exact ra_cons (by walk_at "var") (ra_cons (by walk_at "var") ra_nil)) (by exact ⟨fr, v.2, hfr, hd, hcok k hok.1 v hv, Nat.le_trans (hdep v hv) da, rfl, rfl, rfl⟩) rfl) ra_nil)) (by walk_at "len")⟩) (by decide) (by rw [hlen]; exact Nat.le_trans hok.2 (by decide))) (by unfold innD; rw [hI, List.map_map]; rfl)) rfl) ?_
    exact rb_one (rs_ret (re_ifF (rt_cm (by walk_at "var") re_str cmp_eqS (nomark _)) (re_call N.doM hr5 (by exact ra_cons (by walk_at "var") (ra_cons (by walk_at "var") ra_nil)) (by exact ⟨fr, innC a fr, hfr, hd, hi, rfl, rfl, rfl⟩) rfl)))
end
end J
end

section
set_option Elab.async false
set_option maxHeartbeats 0
set_option linter.all false
set_option maxRecDepth 100000
/-! meant, whole; ahead_of, is_in, may_ahead, ends_from, least_ahead -/
namespace J
open PySem PySem.Spec PyProof.Rows L2
local macro_rules | `(tactic| walk_at "vis") => `(tactic| first | exact Or.inl rfl | exact Or.inr (Or.inl rfl) | exact Or.inr (Or.inr rfl))
local macro_rules | `(tactic| walk_at "loc") => `(tactic| first | exact Or.inl rfl | exact Or.inr rfl)
local macro_rules | `(tactic| walk_at "var") => `(tactic| first
  | exact re_v 0 rfl rfl (by walk_at "vis") | exact re_v 1 rfl rfl (by walk_at "vis") | exact re_v 2 rfl rfl (by walk_at "vis") | exact re_v 3 rfl rfl (by walk_at "vis")
  | exact re_v 4 rfl rfl (by walk_at "vis") | exact re_v 5 rfl rfl (by walk_at "vis") | exact re_v 6 rfl rfl (by walk_at "vis") | exact re_v 7 rfl rfl (by walk_at "vis")
  | exact re_v 8 rfl rfl (by walk_at "vis") | exact re_v 9 rfl rfl (by walk_at "vis") | exact re_v 10 rfl rfl (by walk_at "vis") | exact re_v 11 rfl rfl (by walk_at "vis")
  | exact re_v 12 rfl rfl (by walk_at "vis") | exact re_v 13 rfl rfl (by walk_at "vis") | exact re_v 14 rfl rfl (by walk_at "vis") | exact re_v 15 rfl rfl (by walk_at "vis")
  | exact re_v 16 rfl rfl (by walk_at "vis") | exact re_v 17 rfl rfl (by walk_at "vis") | exact re_v 18 rfl rfl (by walk_at "vis") | exact re_v 19 rfl rfl (by walk_at "vis"))
local macro_rules | `(tactic| walk_at "ix") => `(tactic| first | exact ix_tupD rfl | exact ix_lstD rfl | exact ix_wtD rfl)
local macro_rules | `(tactic| walk_at "len") => `(tactic| first | exact Nat.le_of_ble_eq_true rfl | assumption | (simp; done) | (simp; omega))
local macro_rules | `(tactic| walk_at "ra") => `(tactic| first | ((with_reducible show RA _ [] _ _ _ _); exact ra_nil) | ((with_reducible show RA _ (_ :: _) _ _ _ _); exact ra_cons (by walk_at "ev") (by walk_at "ra")))
local macro_rules | `(tactic| walk_at "bin") => `(tactic| first | exact bin_addI | exact bin_subI | exact bin_addT (by walk_at "len") | exact bin_addL (by walk_at "len"))
local macro_rules | `(tactic| walk_at "ev") => `(tactic| first
  | ((with_reducible show RE _ (Expr.Name _ _) _ _ _ _); walk_at "var")
  | ((with_reducible show RE _ (Expr.Constant _ _ _) _ _ _ _); first | exact re_int | exact re_str | exact re_bl | exact re_non)
  | ((with_reducible show RE _ (Expr.Tuple _ _ _) _ _ _ _); exact re_tup (by walk_at "ra") (by walk_at "len"))
  | ((with_reducible show RE _ (Expr.List _ _) _ _ _ _); exact re_lst (by walk_at "ra") (by walk_at "len"))
  | ((with_reducible show RE _ (Expr.Subscript _ _ _) _ _ _ _); exact re_sub (by walk_at "ev") (by walk_at "ev") (by walk_at "ix"))
  | ((with_reducible show RE _ (Expr.BinOp _ _ _ _) _ _ _ _); exact re_bin (by walk_at "ev") (by walk_at "ev") (by walk_at "bin"))
  | assumption)
/-- in a lot -/
def isIn (r : Ends) (lot : List (List Int)) : Bool := r.isSome && (r.getD []).all fun e => decide (e ∈ lot)
def mayIn (r : Ends) (lot : List (List Int)) : Bool := r.isNone || (r.getD []).any fun e => decide (e ∈ lot)
def aheadE (fr : Fr) (g : Mean) (lot : List (List Int)) : List (List Int) := (statesF fr).filter fun s => isIn (g s) lot
def mayE (fr : Fr) (g : Mean) (lot : List (List Int)) : List (List Int) := (statesF fr).filter fun s => mayIn (g s) lot
section
variable {P : Program} {w : World} {K : PySem.W.Frag} {mg : Str → Option Value} {base : Heap} {f fl : Addr} {fd fdl : FuncData}
theorem has_meant (F : Fun K "meant" "meant" s_meant f fd) (hm : mg "meant" = some (.ref f)) (Fl : Fun K "local_meant" "local_meant" s_local_meant fl fdl) (hl : mg "local_meant" = some (.ref fl)) (B : Bi mg) (k : Nat) (N : MeantNeeds P w K mg base k)
    (h2 : Has P w K mg base "inner_frame" 2 2 RInner) (h4 : Has P w K mg base "place_of" 2 2 RPlace) : ∀ n, Has P w K mg base "meant" (2 * n + k + 6) 2 (RMeant k n)
  | 0 => has_meant_of F hm B k 0 N fun j h => by omega
  | n + 1 => has_meant_of F hm B k (n + 1) N fun j h => by
    obtain rfl : n = j := by omega
    have ih := has_meant F hm Fl hl B k N h2 h4 n
    exact ⟨ih, has_local_meant Fl hl B (2 * n + k + 6) (by omega) (RMeant k n) N.states h2 N.both h4 ih⟩
abbrev RIsIn : List D → Own → D → Own → Prop := fun ds o d o' => ∃ (r : Ends) (lot : List (List Int)), (r.getD []).length ≤ 100 ∧ ds = [endsD r, .tup (lot.map stD)] ∧ d = .bl (isIn r lot) ∧ o' = o
theorem has_is_in (F : Fun K "is_in" "is_in" s_is_in f fd) (hm : mg "is_in" = some (.ref f)) (B : Bi mg) : Has P w K mg base "is_in" 1 2 RIsIn := by
  refine has_mk F sc_is_in hm (F.binds fun _ _ _ _ _ _ us hl => match us, hl with | [_, _], _ => rfl) (by rintro _ _ _ _ ⟨r, lot, _, rfl, _⟩; rfl) fun cdv A outer s0 H E ds o d o' hr hR => ?_
  obtain ⟨r, lot, hl, rfl, rfl, rfl⟩ := hR
  cases r with
  | none => exact rb_one (rs_ret (re_andF (re_eq (re_cm (by walk_at "var") re_non cmp_notN' (nomark _)) rfl)))
  | some L =>
    refine rb_one (rs_ret (re_andT (re_eq (re_cm (by walk_at "var") re_non cmp_notN' (nomark _)) rfl) (re_one (re_eq (re_blt B.all (ra_cons (re_l (d := .lst ((L.map fun e => decide (e ∈ lot)).map .bl)) ?_) ra_nil) (blt_all rfl)) (by rw [List.all_map]; rfl)))))
    rw [List.map_map]
    refine rl_map [("end", 2)] L stD (fun e => [some (endsD (some L)), some (.tup (lot.map stD)), some (stD e)]) [2] _ rfl sc_is_in.nd (ri_tup (by walk_at "var")) (blkOk_by (N := n_is_in) (sc := defScope s_is_in) (by decide +kernel)) (fun s1 H1 C cl fp e he => ⟨rg_name 2 sc_is_in.nd rfl (by walk_at "loc"), ?_⟩) (by decide) (Nat.le_trans hl (by decide))
    exact re_cm (by walk_at "var") (by walk_at "var") (cmp_inSt (J.Room.u65 hr) .tup) (by rfl)
def RAhead (k n : Nat) : List D → Own → D → Own → Prop := fun ds o d o' => ∃ (fr : Fr) (c : Cmd) (lot : List (List Int)), FrOk fr ∧ 1 ≤ fr.length ∧ CmdOk k c fr ∧ c.depth ≤ n ∧ ds = [frD fr, c.D, .tup (lot.map stD)] ∧ d = .tup ((aheadE fr (meanC c fr) lot).map stD) ∧ o' = o
theorem has_ahead_of (F : Fun K "ahead_of" "ahead_of" s_ahead_of f fd) (hm : mg "ahead_of" = some (.ref f)) (B : Bi mg) (k n : Nat) (h1 : Has P w K mg base "states_of" 1 1 RStates) (h2 : Has P w K mg base "meant" (2 * n + k + 6) 2 (RMeant k n)) (h3 : Has P w K mg base "is_in" 1 2 RIsIn) :
    Has P w K mg base "ahead_of" (2 * n + k + 7) 3 (RAhead k n) := by
  refine has_mk (k := 2 * n + k + 6) F sc_ahead_of hm (F.binds fun _ _ _ _ _ _ us hl => match us, hl with | [_, _, _], _ => rfl) (by rintro _ _ _ _ ⟨fr, c, lot, _, _, _, _, rfl, _⟩; rfl) fun cdv A outer s0 H E ds o d o' hr hR => ?_
  obtain ⟨fr, c, lot, hfr, hd, hok, hn, rfl, rfl, rfl⟩ := hR
  have h60 := hfr.le60
  have g := meanC_ok hfr hok
  refine rb_cons (rs_set 3 sc_ahead_of.nd rfl (by walk_at "loc") (re_call h2 hr (by exact ra_cons (by walk_at "var") (ra_cons (by walk_at "var") ra_nil)) (by exact ⟨fr, c, hfr, hd, hok, hn, rfl, rfl, rfl⟩) rfl)) ?_
  refine rb_one (rs_ret (re_tyc B.tuple (ra_cons (re_l ?_) ra_nil) ty_tuple))
  refine rl_lc [("state", 4)] (statesF fr) stD (fun s => [some (frD fr), some c.D, some (.tup (lot.map stD)), some (tabD fr (meanC c fr)), some (stD s)]) [4] _ stD rfl sc_ahead_of.nd (ri_list (re_call h1 (hr.mono (by omega)) (by exact ra_cons (by walk_at "var") ra_nil) (by exact ⟨fr, hfr, rfl, rfl, rfl⟩) rfl)) (blkOk_by (N := n_ahead_of) (sc := defScope s_ahead_of) (by decide +kernel)) (fun s1 H1 C cl fp s hs => ⟨rg_name 4 sc_ahead_of.nd rfl (by walk_at "loc"), ?_, fun _ => by walk_at "var"⟩) (by decide) (by omega)
  exact rts_one (rt_val (re_call h3 (hr.mono (by omega)) (by exact ra_cons (re_tabAt (J.Room.u1 hr) (by walk_at "var") (by walk_at "var") hs) (ra_cons (by walk_at "var") ra_nil)) (by exact ⟨meanC c fr s, lot, Nat.le_trans (g s hs).few (by decide), rfl, rfl, rfl⟩) rfl))
def RMay (k n : Nat) : List D → Own → D → Own → Prop := fun ds o d o' => ∃ (fr : Fr) (c : Cmd) (lot : List (List Int)), FrOk fr ∧ 1 ≤ fr.length ∧ CmdOk k c fr ∧ c.depth ≤ n ∧ ds = [frD fr, c.D, .tup (lot.map stD)] ∧ d = .tup ((mayE fr (meanC c fr) lot).map stD) ∧ o' = o
theorem asc_le {l : List (List Int)} (h : Asc l) : l.Pairwise fun a b => lexLt b a = false := List.Pairwise.imp (fun {a b} q => NtL.lex_asym a b q) h
theorem has_may_ahead (F : Fun K "may_ahead" "may_ahead" s_may_ahead f fd) (hm : mg "may_ahead" = some (.ref f)) (B : Bi mg) (k n : Nat) (h2 : Has P w K mg base "meant" (2 * n + k + 6) 2 (RMeant k n)) : Has P w K mg base "may_ahead" (2 * n + k + 7) 3 (RMay k n) := by
  refine has_mk (k := 2 * n + k + 6) F sc_may_ahead hm (F.binds fun _ _ _ _ _ _ us hl => match us, hl with | [_, _, _], _ => rfl) (by rintro _ _ _ _ ⟨fr, c, lot, _, _, _, _, rfl, _⟩; rfl) fun cdv A outer s0 H E ds o d o' hr hR => ?_
  obtain ⟨fr, c, lot, hfr, hd, hok, hn, rfl, rfl, rfl⟩ := hR
  have h60 := hfr.le60
  have g := meanC_ok hfr hok
  have u1 := J.Room.u1 hr
  refine rb_cons (rs_set 3 sc_may_ahead.nd rfl (by walk_at "loc") (re_call h2 hr (by exact ra_cons (by walk_at "var") (ra_cons (by walk_at "var") ra_nil)) (by exact ⟨fr, c, hfr, hd, hok, hn, rfl, rfl, rfl⟩) rfl)) ?_
  refine rb_cons (γ1 := [some (frD fr), some c.D, some (.tup (lot.map stD)), some (tabD fr (meanC c fr)), some (.lst ((mayE fr (meanC c fr) lot).map stD)), none, none]) (o1 := o') (rs_setL (d := .lst ((mayE fr (meanC c fr) lot).map stD)) (o1 := o') 4 sc_may_ahead.nd rfl rfl ?_ rfl) (rb_one (rs_ret (re_tyc B.tuple (ra_cons (re_blt B.sorted (by walk_at "ra") (blt_sorted (xs := mayE fr (meanC c fr) lot) (k := fr.length) rfl (.of .lst) (fun s hs => statesF_len (List.mem_filter.mp hs).1) (fun _ => hd) (List.Perm.refl _) (asc_le (List.Pairwise.sublist List.filter_sublist (statesF_asc fr))))) ra_nil) ty_tuple)))
  refine rl_lc [("state", 5)] (statesF fr) stD (fun s => [some (frD fr), some c.D, some (.tup (lot.map stD)), some (tabD fr (meanC c fr)), none, some (stD s), none]) [5] (fun s => mayIn (meanC c fr s) lot) stD rfl sc_may_ahead.nd (ri_eq (ri_keysS (by walk_at "var")) (by rw [List.map_map, List.map_map]; rfl)) (blkOk_by (N := n_may_ahead) (sc := defScope s_may_ahead) (by decide +kernel)) (fun s1 H1 C cl fp s hs => ⟨rg_name 5 sc_may_ahead.nd rfl (by walk_at "loc"), rts_one ?_, fun _ => by walk_at "var"⟩) (by decide) (by omega)
  refine rt_orB (rt_eq (rt_cm (re_tabAt u1 (by walk_at "var") (by walk_at "var") hs) re_non cmp_isN' (nomark _)) (isNon_ends _)) fun hsome => ?_
  have gs := (g s hs).few
  cases q : meanC c fr s with
  | none => rw [q] at hsome; cases hsome
  | some L =>
    rw [q] at gs
    have gs : L.length ≤ 60 := gs
    refine rt_val (re_eq (re_blt B.any (ra_cons (re_l (d := .lst ((L.map fun e => decide (e ∈ lot)).map .bl)) ?_) ra_nil) (blt_any rfl)) (by rw [List.any_map]; rfl))
    rw [List.map_map]
    refine rl_map [("end", 6)] L stD (fun e => [some (frD fr), some c.D, some (.tup (lot.map stD)), some (tabD fr (meanC c fr)), none, some (stD s), some (stD e)]) [6] _ rfl sc_may_ahead.nd (ri_tup (re_eq (re_tabAt u1 (by walk_at "var") (by walk_at "var") hs) (by rw [q]; rfl))) (blkOk_by (N := n_may_ahead) (by kernel_rfl)) (fun s1 H1 C cl fp e he => ⟨rg_name 6 sc_may_ahead.nd rfl (by walk_at "loc"), ?_⟩) (by decide) (by omega)
    exact re_cm (by walk_at "var") (by walk_at "var") (cmp_inSt (J.Room.u65 hr) .tup) (by rfl)
def RFrom (k n : Nat) : List D → Own → D → Own → Prop := fun ds o d o' => ∃ (fr : Fr) (c : Cmd) (lot : List (List Int)), FrOk fr ∧ 1 ≤ fr.length ∧ CmdOk k c fr ∧ c.depth ≤ n ∧ (∀ s ∈ lot, s ∈ statesF fr) ∧ lot.length ≤ 1000 ∧ ds = [frD fr, c.D, .tup (lot.map stD)] ∧ d = endsD (bothE (lot.map (meanC c fr))) ∧ o' = o
theorem has_ends_from (F : Fun K "ends_from" "ends_from" s_ends_from f fd) (hm : mg "ends_from" = some (.ref f)) (k n : Nat) (h2 : Has P w K mg base "meant" (2 * n + k + 6) 2 (RMeant k n)) (h3 : Has P w K mg base "both_ends" 1 1 RBoth) : Has P w K mg base "ends_from" (2 * n + k + 7) 3 (RFrom k n) := by
  refine has_mk (k := 2 * n + k + 6) F sc_ends_from hm (F.binds fun _ _ _ _ _ _ us hl => match us, hl with | [_, _, _], _ => rfl) (by rintro _ _ _ _ ⟨fr, c, lot, _, _, _, _, _, _, rfl, _⟩; rfl) fun cdv A outer s0 H E ds o d o' hr hR => ?_
  obtain ⟨fr, c, lot, hfr, hd, hok, hn, hlot, hll, rfl, rfl, rfl⟩ := hR
  have g := meanC_ok hfr hok
  have ge : ∀ r ∈ lot.map (meanC c fr), EnOk fr r := fun r hr => by
    obtain ⟨s, hs, rfl⟩ := List.mem_map.mp hr
    exact g s (hlot s hs)
  refine rb_cons (rs_set 3 sc_ends_from.nd rfl (by walk_at "loc") (re_call h2 hr (by exact ra_cons (by walk_at "var") (ra_cons (by walk_at "var") ra_nil)) (by exact ⟨fr, c, hfr, hd, hok, hn, rfl, rfl, rfl⟩) rfl)) ?_
  refine rb_one (rs_ret (re_call h3 (hr.mono (by omega)) (ra_cons (re_l (d := .lst ((lot.map (meanC c fr)).map endsD)) (o' := o') ?_) ra_nil) (by exact ⟨fr, lot.map (meanC c fr), hfr, hd, fun r hr => (ge r hr).inn, rows_sum ge (by rw [List.length_map]; exact hll), by rw [List.length_map]; omega, rfl, rfl, rfl⟩) rfl))
  refine rl_eq (rl_map [("state", 4)] lot stD (fun s => [some (frD fr), some c.D, some (.tup (lot.map stD)), some (tabD fr (meanC c fr)), some (stD s)]) [4] (fun s => endsD (meanC c fr s)) rfl sc_ends_from.nd (ri_tup (by walk_at "var")) (blkOk_by (N := n_ends_from) (sc := defScope s_ends_from) (by decide +kernel)) (fun s1 H1 C cl fp s hs => ⟨rg_name 4 sc_ends_from.nd rfl (by walk_at "loc"), re_tabAt (J.Room.u1 hr) (by walk_at "var") (by walk_at "var") (hlot s hs)⟩) (by decide) (by omega)) (by rw [List.map_map]; rfl)
def RLeast (k n : Nat) : List D → Own → D → Own → Prop := fun ds o d o' => ∃ (fr : Fr) (c : Cmd), FrOk fr ∧ 1 ≤ fr.length ∧ CmdOk k c fr ∧ c.depth ≤ n ∧ ds = [frD fr, c.D] ∧ d = .tup ((aheadE fr (meanC c fr) (statesF fr)).map stD) ∧ o' = o
theorem has_least_ahead (F : Fun K "least_ahead" "least_ahead" s_least_ahead f fd) (hm : mg "least_ahead" = some (.ref f)) (B : Bi mg) (k n : Nat) (h1 : Has P w K mg base "states_of" 1 1 RStates) (h2 : Has P w K mg base "ahead_of" (2 * n + k + 7) 3 (RAhead k n)) : Has P w K mg base "least_ahead" (2 * n + k + 8) 2 (RLeast k n) := by
  refine has_mk (k := 2 * n + k + 7) F sc_least_ahead hm (F.binds fun _ _ _ _ _ _ us hl => match us, hl with | [_, _], _ => rfl) (by rintro _ _ _ _ ⟨fr, c, _, _, _, _, rfl, _⟩; rfl) fun cdv A outer s0 H E ds o d o' hr hR => ?_
  obtain ⟨fr, c, hfr, hd, hok, hn, rfl, rfl, rfl⟩ := hR
  exact rb_one (rs_ret (re_call h2 hr (by exact ra_cons (by walk_at "var") (ra_cons (by walk_at "var") (ra_cons (re_tyc B.tuple (ra_cons (re_call h1 (hr.mono (by omega)) (by exact ra_cons (by walk_at "var") ra_nil) (by exact ⟨fr, hfr, rfl, rfl, rfl⟩) rfl) ra_nil) ty_tuple) ra_nil))) (by exact ⟨fr, c, statesF fr, hfr, hd, hok, hn, rfl, rfl, rfl⟩) rfl))
end
end J
end

section
set_option Elab.async false
set_option maxHeartbeats 0
set_option linter.all false
set_option maxRecDepth 100000
/-! the law's draws -/
namespace J
open PySem PySem.Spec PyProof.Rows L2
local macro_rules | `(tactic| walk_at "vis") => `(tactic| first | exact Or.inl rfl | exact Or.inr (Or.inl rfl) | exact Or.inr (Or.inr rfl))
local macro_rules | `(tactic| walk_at "loc") => `(tactic| first | exact Or.inl rfl | exact Or.inr rfl)
local macro_rules | `(tactic| walk_at "var") => `(tactic| first
  | exact re_v 0 rfl rfl (by walk_at "vis") | exact re_v 1 rfl rfl (by walk_at "vis") | exact re_v 2 rfl rfl (by walk_at "vis") | exact re_v 3 rfl rfl (by walk_at "vis")
  | exact re_v 4 rfl rfl (by walk_at "vis") | exact re_v 5 rfl rfl (by walk_at "vis") | exact re_v 6 rfl rfl (by walk_at "vis") | exact re_v 7 rfl rfl (by walk_at "vis")
  | exact re_v 8 rfl rfl (by walk_at "vis") | exact re_v 9 rfl rfl (by walk_at "vis") | exact re_v 10 rfl rfl (by walk_at "vis") | exact re_v 11 rfl rfl (by walk_at "vis")
  | exact re_v 12 rfl rfl (by walk_at "vis") | exact re_v 13 rfl rfl (by walk_at "vis") | exact re_v 14 rfl rfl (by walk_at "vis") | exact re_v 15 rfl rfl (by walk_at "vis")
  | exact re_v 16 rfl rfl (by walk_at "vis") | exact re_v 17 rfl rfl (by walk_at "vis") | exact re_v 18 rfl rfl (by walk_at "vis") | exact re_v 19 rfl rfl (by walk_at "vis"))
local macro_rules | `(tactic| walk_at "ix") => `(tactic| first | exact ix_tupD rfl | exact ix_lstD rfl | exact ix_wtD rfl)
local macro_rules | `(tactic| walk_at "len") => `(tactic| first | exact Nat.le_of_ble_eq_true rfl | assumption | (simp; done) | (simp; omega))
local macro_rules | `(tactic| walk_at "ra") => `(tactic| first | ((with_reducible show RA _ [] _ _ _ _); exact ra_nil) | ((with_reducible show RA _ (_ :: _) _ _ _ _); exact ra_cons (by walk_at "ev") (by walk_at "ra")))
local macro_rules | `(tactic| walk_at "bin") => `(tactic| first | exact bin_addI | exact bin_subI | exact bin_addT (by walk_at "len") | exact bin_addL (by walk_at "len"))
local macro_rules | `(tactic| walk_at "ev") => `(tactic| first
  | ((with_reducible show RE _ (Expr.Name _ _) _ _ _ _); walk_at "var")
  | ((with_reducible show RE _ (Expr.Constant _ _ _) _ _ _ _); first | exact re_int | exact re_str | exact re_bl | exact re_non)
  | ((with_reducible show RE _ (Expr.Tuple _ _ _) _ _ _ _); exact re_tup (by walk_at "ra") (by walk_at "len"))
  | ((with_reducible show RE _ (Expr.List _ _) _ _ _ _); exact re_lst (by walk_at "ra") (by walk_at "len"))
  | ((with_reducible show RE _ (Expr.Subscript _ _ _) _ _ _ _); exact re_sub (by walk_at "ev") (by walk_at "ev") (by walk_at "ix"))
  | ((with_reducible show RE _ (Expr.BinOp _ _ _ _) _ _ _ _); exact re_bin (by walk_at "ev") (by walk_at "ev") (by walk_at "bin"))
  | assumption)
/-- the dict w: what is drawn, and how far one is -/
def wD (dr : List Int) (n : Nat) : D := .dK [(.inr "draws", .lst (dr.map .int)), (.inr "at", .int (n : Int))]
/-- one's own with w at p -/
def oW (o : Own) (p : Addr) (dr : List Int) (n : Nat) : Own := setO o p (wD dr n)
def IsW (o : Own) (p : Addr) : Prop := p ∈ o.map (·.1)
theorem oW_mem {o : Own} {p : Addr} {dr : List Int} {n : Nat} (h : IsW o p) : (p, wD dr n) ∈ oW o p dr n := by
  obtain ⟨q, hq, e⟩ := List.mem_map.mp h
  obtain ⟨a, d⟩ := q
  have e' : a = p := e
  subst e'
  exact mem_setO hq
theorem oW_set {o : Own} {p : Addr} {dr : List Int} {n m : Nat} : setO (oW o p dr n) p (wD dr m) = oW o p dr m := setO_setO o p _ _
/-- what is drawn next, of m -/
def nxt (dr : List Int) (n m : Nat) : Nat := if dr.length < n + 1 then 0 else (dr.getD n 0 % (m : Int)).toNat
theorem nxt_lt {dr : List Int} {n m : Nat} (hm : 0 < m) : nxt dr n m < m := by
  unfold nxt
  split
  · exact hm
  · have h1 := Int.emod_nonneg (dr.getD n 0) (show (m : Int) ≠ 0 by omega)
    have h2 := Int.emod_lt_of_pos (dr.getD n 0) (show (0 : Int) < m by omega)
    omega
theorem wD_put (dr : List Int) (n : Nat) : putD [((.inr "draws" : Key), D.lst (dr.map .int)), (.inr "at", .int (n : Int))] (.inr "at") (.int ((n : Int) + 1)) = [(.inr "draws", .lst (dr.map .int)), (.inr "at", .int ((n + 1 : Nat) : Int))] := rfl
section
variable {P : Program} {w : World} {K : PySem.W.Frag} {mg : Str → Option Value} {base : Heap} {f : Addr} {fd : FuncData}
structure DrOk (dr : List Int) : Prop where
  few : dr.length ≤ 100000
abbrev RNext : List D → Own → D → Own → Prop := fun ds o d o' => ∃ (dr : List Int) (o0 : Own) (p : Addr) (n m : Nat), DrOk dr ∧ IsW o0 p ∧ 0 < m ∧ o = oW o0 p dr n ∧ ds = [.adr p, .int (m : Int)] ∧ d = .int (nxt dr n m : Int) ∧ o' = oW o0 p dr (n + 1)
theorem has_law_next (F : Fun K "_law_next" "_law_next" s__law_next f fd) (hm : mg "_law_next" = some (.ref f)) (B : Bi mg) : Has P w K mg base "_law_next" 1 2 RNext := by
  refine has_mk F sc__law_next hm (F.binds fun _ _ _ _ _ _ us hl => match us, hl with | [_, _], _ => rfl) (by rintro _ _ _ _ ⟨dr, o0, p, n, m, _, _, _, _, rfl, _⟩; rfl) fun cdv A outer s0 H E ds o d o' hr hR => ?_
  obtain ⟨dr, o0, p, n, m, hdr, hw, hm0, rfl, rfl, rfl, rfl⟩ := hR
  have u1 := J.Room.u1 hr
  have m0 : ∀ n, (p, wD dr n) ∈ oW o0 p dr n := fun n => oW_mem hw
  refine rb_cons (γ1 := startG n__law_next [.adr p, .int (m : Int)]) (o1 := oW o0 p dr (n + 1)) (rs_eq (rs_daugI (k := .inr "at") (m := (n : Int)) (n := 1) u1 (by walk_at "var") re_str re_int (m0 n) rfl (m0 n) (by walk_at "len")) (by rw [wD_put]; exact congrArg _ oW_set)) ?_
  by_cases c : dr.length < n + 1
  · have e : nxt dr n m = 0 := if_pos c
    rw [e]
    refine rb_ret (rs_ifT (rt_eq (rt_cm (re_dget u1 (by walk_at "var") re_str (gets_oK (k := .inr "at") (m0 (n + 1)))) (re_blt B.len (ra_cons (re_dget u1 (by walk_at "var") re_str (gets_oK (k := .inr "draws") (m0 (n + 1)))) ra_nil) (blt_len .lst)) cmp_gtI (nomark _)) (by rw [List.length_map]; exact decide_eq_true (by omega))) (rb_one (rs_ret re_int)))
  · have e : nxt dr n m = (dr.getD n 0 % (m : Int)).toNat := if_neg c
    have hn : n < dr.length := by omega
    have h1 := Int.emod_nonneg (dr.getD n 0) (show (m : Int) ≠ 0 by omega)
    refine rb_cons (rs_ifF (rt_eq (rt_cm (re_dget u1 (by walk_at "var") re_str (gets_oK (k := .inr "at") (m0 (n + 1)))) (re_blt B.len (ra_cons (re_dget u1 (by walk_at "var") re_str (gets_oK (k := .inr "draws") (m0 (n + 1)))) ra_nil) (blt_len .lst)) cmp_gtI (nomark _)) (by rw [List.length_map]; exact decide_eq_false (by omega))) rb_nil) ?_
    refine rb_one (rs_ret (re_eq (re_bin (re_tyc B.int (ra_cons (re_sub (re_dget u1 (by walk_at "var") re_str (gets_oK (k := .inr "draws") (m0 (n + 1)))) (re_eq (d := .int (n : Int)) (re_bin (re_dget u1 (by walk_at "var") re_str (gets_oK (k := .inr "at") (m0 (n + 1)))) re_int bin_subI) ?_) (ix_lstD (getD_at hn))) ra_nil) ty_int) (by walk_at "var") (bin_modI (by omega))) ?_))
    · congr 1
      omega
    · rw [e, Int.toNat_of_nonneg h1]
end
end J
end

section
set_option Elab.async false
set_option maxHeartbeats 0
set_option linter.all false
set_option maxRecDepth 100000
/-! _law_pick -/
namespace J
open PySem PySem.Spec PyProof.Rows L2
local macro_rules | `(tactic| walk_at "vis") => `(tactic| first | exact Or.inl rfl | exact Or.inr (Or.inl rfl) | exact Or.inr (Or.inr rfl))
local macro_rules | `(tactic| walk_at "loc") => `(tactic| first | exact Or.inl rfl | exact Or.inr rfl)
local macro_rules | `(tactic| walk_at "var") => `(tactic| first
  | exact re_v 0 rfl rfl (by walk_at "vis") | exact re_v 1 rfl rfl (by walk_at "vis") | exact re_v 2 rfl rfl (by walk_at "vis") | exact re_v 3 rfl rfl (by walk_at "vis")
  | exact re_v 4 rfl rfl (by walk_at "vis") | exact re_v 5 rfl rfl (by walk_at "vis") | exact re_v 6 rfl rfl (by walk_at "vis") | exact re_v 7 rfl rfl (by walk_at "vis")
  | exact re_v 8 rfl rfl (by walk_at "vis") | exact re_v 9 rfl rfl (by walk_at "vis") | exact re_v 10 rfl rfl (by walk_at "vis") | exact re_v 11 rfl rfl (by walk_at "vis")
  | exact re_v 12 rfl rfl (by walk_at "vis") | exact re_v 13 rfl rfl (by walk_at "vis") | exact re_v 14 rfl rfl (by walk_at "vis") | exact re_v 15 rfl rfl (by walk_at "vis")
  | exact re_v 16 rfl rfl (by walk_at "vis") | exact re_v 17 rfl rfl (by walk_at "vis") | exact re_v 18 rfl rfl (by walk_at "vis") | exact re_v 19 rfl rfl (by walk_at "vis"))
local macro_rules | `(tactic| walk_at "ix") => `(tactic| first | exact ix_tupD rfl | exact ix_lstD rfl | exact ix_wtD rfl)
local macro_rules | `(tactic| walk_at "len") => `(tactic| first | exact Nat.le_of_ble_eq_true rfl | assumption | (simp; done) | (simp; omega))
local macro_rules | `(tactic| walk_at "ra") => `(tactic| first | ((with_reducible show RA _ [] _ _ _ _); exact ra_nil) | ((with_reducible show RA _ (_ :: _) _ _ _ _); exact ra_cons (by walk_at "ev") (by walk_at "ra")))
local macro_rules | `(tactic| walk_at "bin") => `(tactic| first | exact bin_addI | exact bin_subI | exact bin_addT (by walk_at "len") | exact bin_addL (by walk_at "len"))
local macro_rules | `(tactic| walk_at "ev") => `(tactic| first
  | ((with_reducible show RE _ (Expr.Name _ _) _ _ _ _); walk_at "var")
  | ((with_reducible show RE _ (Expr.Constant _ _ _) _ _ _ _); first | exact re_int | exact re_str | exact re_bl | exact re_non)
  | ((with_reducible show RE _ (Expr.Tuple _ _ _) _ _ _ _); exact re_tup (by walk_at "ra") (by walk_at "len"))
  | ((with_reducible show RE _ (Expr.List _ _) _ _ _ _); exact re_lst (by walk_at "ra") (by walk_at "len"))
  | ((with_reducible show RE _ (Expr.Subscript _ _ _) _ _ _ _); exact re_sub (by walk_at "ev") (by walk_at "ev") (by walk_at "ix"))
  | ((with_reducible show RE _ (Expr.BinOp _ _ _ _) _ _ _ _); exact re_bin (by walk_at "ev") (by walk_at "ev") (by walk_at "bin"))
  | assumption)
theorem oW_cons {o : Own} {p q : Addr} {d : D} {dr : List Int} {n : Nat} (h : q ≠ p) : (q, d) :: oW o p dr n = oW ((q, d) :: o) p dr n := (setO_cons_ne h).symm
theorem isW_cons {o : Own} {p q : Addr} {d : D} (h : IsW o p) : IsW ((q, d) :: o) p := List.mem_cons_of_mem _ h
section
variable {P : Program} {w : World} {K : PySem.W.Frag} {mg : Str → Option Value} {base : Heap} {f : Addr} {fd : FuncData}
/-- one of the rows -/
abbrev RPick : List D → Own → D → Own → Prop := fun ds o d o' => ∃ (dr : List Int) (o0 : Own) (p : Addr) (n : Nat) (xs : List D), DrOk dr ∧ IsW o0 p ∧ 0 < xs.length ∧ o = oW o0 p dr n ∧ (ds = [.adr p, .tup xs] ∨ ds = [.adr p, .lst xs]) ∧ xs[nxt dr n xs.length]? = some d ∧ o' = oW o0 p dr (n + 1)
theorem has_law_pick (F : Fun K "_law_pick" "_law_pick" s__law_pick f fd) (hm : mg "_law_pick" = some (.ref f)) (B : Bi mg) (h1 : Has P w K mg base "_law_next" 1 2 RNext) : Has P w K mg base "_law_pick" 2 2 RPick := by
  refine has_mk F sc__law_pick hm (F.binds fun _ _ _ _ _ _ us hl => match us, hl with | [_, _], _ => rfl) (by rintro _ _ _ _ ⟨dr, o0, p, n, xs, _, _, _, _, h, _⟩; rcases h with rfl | rfl <;> rfl) fun cdv A outer s0 H E ds o d o' hr hR => ?_
  obtain ⟨dr, o0, p, n, xs, hdr, hw, hx, rfl, hds, hd, rfl⟩ := hR
  rcases hds with rfl | rfl
  · exact rb_one (rs_ret (re_sub (by walk_at "var") (re_call h1 hr (by exact ra_cons (by walk_at "var") (ra_cons (re_blt B.len (ra_cons (by walk_at "var") ra_nil) (blt_len .tup)) ra_nil)) (by exact ⟨dr, o0, p, n, xs.length, hdr, hw, hx, rfl, rfl, rfl, rfl⟩) rfl) (ix_tupD (atI_mk hd))))
  · exact rb_one (rs_ret (re_sub (by walk_at "var") (re_call h1 hr (by exact ra_cons (by walk_at "var") (ra_cons (re_blt B.len (ra_cons (by walk_at "var") ra_nil) (blt_len .lst)) ra_nil)) (by exact ⟨dr, o0, p, n, xs.length, hdr, hw, hx, rfl, rfl, rfl, rfl⟩) rfl) (ix_lstD (atI_mk hd))))
end
end J
end

section
set_option Elab.async false
set_option maxHeartbeats 0
set_option linter.all false
set_option maxRecDepth 100000
/-! _law_frame -/
namespace J
open PySem PySem.Spec PyProof.Rows L2
local macro_rules | `(tactic| walk_at "vis") => `(tactic| first | exact Or.inl rfl | exact Or.inr (Or.inl rfl) | exact Or.inr (Or.inr rfl))
local macro_rules | `(tactic| walk_at "loc") => `(tactic| first | exact Or.inl rfl | exact Or.inr rfl)
local macro_rules | `(tactic| walk_at "var") => `(tactic| first
  | exact re_v 0 rfl rfl (by walk_at "vis") | exact re_v 1 rfl rfl (by walk_at "vis") | exact re_v 2 rfl rfl (by walk_at "vis") | exact re_v 3 rfl rfl (by walk_at "vis")
  | exact re_v 4 rfl rfl (by walk_at "vis") | exact re_v 5 rfl rfl (by walk_at "vis") | exact re_v 6 rfl rfl (by walk_at "vis") | exact re_v 7 rfl rfl (by walk_at "vis")
  | exact re_v 8 rfl rfl (by walk_at "vis") | exact re_v 9 rfl rfl (by walk_at "vis") | exact re_v 10 rfl rfl (by walk_at "vis") | exact re_v 11 rfl rfl (by walk_at "vis")
  | exact re_v 12 rfl rfl (by walk_at "vis") | exact re_v 13 rfl rfl (by walk_at "vis") | exact re_v 14 rfl rfl (by walk_at "vis") | exact re_v 15 rfl rfl (by walk_at "vis")
  | exact re_v 16 rfl rfl (by walk_at "vis") | exact re_v 17 rfl rfl (by walk_at "vis") | exact re_v 18 rfl rfl (by walk_at "vis") | exact re_v 19 rfl rfl (by walk_at "vis"))
local macro_rules | `(tactic| walk_at "ix") => `(tactic| first | exact ix_tupD rfl | exact ix_lstD rfl | exact ix_wtD rfl)
local macro_rules | `(tactic| walk_at "len") => `(tactic| first | exact Nat.le_of_ble_eq_true rfl | assumption | (simp; done) | (simp; omega))
local macro_rules | `(tactic| walk_at "ra") => `(tactic| first | ((with_reducible show RA _ [] _ _ _ _); exact ra_nil) | ((with_reducible show RA _ (_ :: _) _ _ _ _); exact ra_cons (by walk_at "ev") (by walk_at "ra")))
local macro_rules | `(tactic| walk_at "bin") => `(tactic| first | exact bin_addI | exact bin_subI | exact bin_addT (by walk_at "len") | exact bin_addL (by walk_at "len"))
local macro_rules | `(tactic| walk_at "ev") => `(tactic| first
  | ((with_reducible show RE _ (Expr.Name _ _) _ _ _ _); walk_at "var")
  | ((with_reducible show RE _ (Expr.Constant _ _ _) _ _ _ _); first | exact re_int | exact re_str | exact re_bl | exact re_non)
  | ((with_reducible show RE _ (Expr.Tuple _ _ _) _ _ _ _); exact re_tup (by walk_at "ra") (by walk_at "len"))
  | ((with_reducible show RE _ (Expr.List _ _) _ _ _ _); exact re_lst (by walk_at "ra") (by walk_at "len"))
  | ((with_reducible show RE _ (Expr.Subscript _ _ _) _ _ _ _); exact re_sub (by walk_at "ev") (by walk_at "ev") (by walk_at "ix"))
  | ((with_reducible show RE _ (Expr.BinOp _ _ _ _) _ _ _ _); exact re_bin (by walk_at "ev") (by walk_at "ev") (by walk_at "bin"))
  | assumption)
def lowG (a : Nat) : Int := if a = 2 then -1 else 0
def frameG (dr : List Int) (n : Nat) : Fr × Nat :=
  if 0 < nxt dr (n + 2) 3 then ([("x", lowG (nxt dr n 3), lowG (nxt dr n 3) + 1 + (nxt dr (n + 1) 4 : Int)), ("y", 0, 1 + (nxt dr (n + 3) 3 : Int))], n + 4)
  else ([("x", lowG (nxt dr n 3), lowG (nxt dr n 3) + 1 + (nxt dr (n + 1) 4 : Int))], n + 3)
theorem low_at {a : Nat} (h : a < 3) : ([D.int 0, .int 0, .int (-1)] : List D)[a]? = some (.int (lowG a)) := by
  rcases (show a = 0 ∨ a = 1 ∨ a = 2 by omega) with rfl | rfl | rfl <;> rfl
theorem re_neg {X : Cx} {γ : Sto} {o o1 : Own} {e : Expr} {i : Int} {pos : Pos} (h : RE X e γ o (.int i) o1) : RE X (.UnaryOp .USub e pos) γ o (.int (-i)) o1 :=
  re_un un_neg h fun Hb F H x Q w hx q => by cases hx; exact ⟨i, rfl, q _ Hb H (Ex.refl _) w (.int _)⟩
section
variable {P : Program} {w : World} {K : PySem.W.Frag} {mg : Str → Option Value} {base : Heap} {f : Addr} {fd : FuncData}
abbrev RFrame : List D → Own → D → Own → Prop := fun ds o d o' => ∃ (dr : List Int) (o0 : Own) (p : Addr) (n : Nat), DrOk dr ∧ IsW o0 p ∧ o = oW o0 p dr n ∧ ds = [.adr p] ∧ d = frD (frameG dr n).1 ∧ o' = oW o0 p dr (frameG dr n).2
theorem has_law_frame (F : Fun K "_law_frame" "_law_frame" s__law_frame f fd) (hm : mg "_law_frame" = some (.ref f)) (B : Bi mg) (h1 : Has P w K mg base "_law_next" 1 2 RNext) : Has P w K mg base "_law_frame" 2 1 RFrame := by
  refine has_mk F sc__law_frame hm (F.binds fun _ _ _ _ _ _ us hl => match us, hl with | [_], _ => rfl) (by rintro _ _ _ _ ⟨dr, o0, p, n, _, _, _, rfl, _⟩; rfl) fun cdv A outer s0 H E ds o d o' hr hR => ?_
  obtain ⟨dr, o0, p, n, hdr, hw, rfl, rfl, rfl, rfl⟩ := hR
  refine rb_cons (γ1 := [some (.adr p), some (.int (lowG (nxt dr n 3))), none]) (o1 := oW o0 p dr (n + 1)) (rs_set 1 sc__law_frame.nd rfl (by walk_at "loc") (re_sub (re_tup (ra_cons re_int (ra_cons re_int (ra_cons (re_neg re_int) ra_nil))) (by walk_at "len")) (re_call h1 hr (by exact ra_cons (by walk_at "var") (ra_cons re_int ra_nil)) (by exact ⟨dr, o0, p, n, 3, hdr, hw, by decide, rfl, rfl, rfl, rfl⟩) rfl) (ix_tupD (atI_mk (low_at (nxt_lt (by decide))))))) ?_
  refine rb_consG (rsg_set 2 sc__law_frame.nd rfl (by walk_at "loc") (reg_lstA (ds := [rowD ("x", lowG (nxt dr n 3), lowG (nxt dr n 3) + 1 + (nxt dr (n + 1) 4 : Int))]) (o1 := oW o0 p dr (n + 2)) (ra_cons (re_tup (ra_cons re_str (ra_cons (by walk_at "var") (ra_cons (re_bin (re_bin (by walk_at "var") re_int bin_addI) (re_call h1 hr (by exact ra_cons (by walk_at "var") (ra_cons re_int ra_nil)) (by exact ⟨dr, o0, p, n + 1, 4, hdr, hw, by decide, rfl, rfl, rfl, rfl⟩) rfl) bin_addI) ra_nil))) (by walk_at "len")) ra_nil) (by walk_at "len"))) fun γ' o1 hP => ?_
  obtain ⟨_, ⟨q, rfl, hf, rfl⟩, rfl⟩ := hP
  have hqp : q ≠ p := fun e => hf (by rw [e]; unfold oW; rw [setO_keys]; exact hw)
  have hw2 : ∀ d, IsW ((q, d) :: o0) p := fun d => isW_cons hw
  have lt3 : (0 : Int) < (nxt dr (n + 2) 3 : Int) ↔ 0 < nxt dr (n + 2) 3 := by omega
  have hf' : Fresh o0 q := fun h => hf (by unfold oW; rw [setO_keys]; exact h)
  by_cases c : 0 < nxt dr (n + 2) 3
  · have e : frameG dr n = (([("x", lowG (nxt dr n 3), lowG (nxt dr n 3) + 1 + (nxt dr (n + 1) 4 : Int)), ("y", 0, 1 + (nxt dr (n + 3) 3 : Int))] : Fr), n + 4) := if_pos c
    rw [e]
    refine rb_cons (γ1 := [some (.adr p), some (.int (lowG (nxt dr n 3))), some (.adr q)]) (o1 := (q, .lst ([rowD ("x", lowG (nxt dr n 3), lowG (nxt dr n 3) + 1 + (nxt dr (n + 1) 4 : Int))] ++ [rowD ("y", 0, 1 + (nxt dr (n + 3) 3 : Int))])) :: oW o0 p dr (n + 4))
      (rs_ifT (o1 := oW ((q, .lst [rowD ("x", lowG (nxt dr n 3), lowG (nxt dr n 3) + 1 + (nxt dr (n + 1) 4 : Int))]) :: o0) p dr (n + 3)) (rt_eq (rt_cm (re_call h1 hr (by exact ra_cons (by walk_at "var") (ra_cons re_int ra_nil)) (by exact ⟨dr, _, p, n + 2, 3, hdr, hw2 _, by decide, oW_cons hqp, rfl, rfl, rfl⟩) rfl) re_int cmp_gtI (nomark _)) (decide_eq_true (lt3.mpr c)))
        (rb_one (rs_eq (rs_expr (re_append (p := q) (ds := [rowD ("x", lowG (nxt dr n 3), lowG (nxt dr n 3) + 1 + (nxt dr (n + 1) 4 : Int))]) (o2 := oW ((q, .lst [rowD ("x", lowG (nxt dr n 3), lowG (nxt dr n 3) + 1 + (nxt dr (n + 1) 4 : Int))]) :: o0) p dr (n + 4)) (by walk_at "var") (re_tup (ra_cons re_str (ra_cons re_int (ra_cons (re_bin re_int (re_call h1 hr (by exact ra_cons (by walk_at "var") (ra_cons re_int ra_nil)) (by exact ⟨dr, _, p, n + 3, 3, hdr, hw2 _, by decide, rfl, rfl, rfl, rfl⟩) rfl) bin_addI) ra_nil))) (by walk_at "len")) ⟨_, by rw [← oW_cons hqp]; exact List.mem_cons_self⟩ (by rw [← oW_cons hqp]; exact List.mem_cons_self) (by walk_at "len"))) (by rw [← oW_cons hqp, setO_cons (by unfold oW; rw [setO_keys]; exact hf')]; rfl)))) ?_
    refine rb_one (rs_ret (re_drop (o1 := (q, .lst ([rowD ("x", lowG (nxt dr n 3), lowG (nxt dr n 3) + 1 + (nxt dr (n + 1) 4 : Int))] ++ [rowD ("y", 0, 1 + (nxt dr (n + 3) 3 : Int))])) :: oW o0 p dr (n + 4)) ?_ (List.sublist_cons_self _ _)))
    exact re_tyc B.tuple (ra_cons (by walk_at "var") ra_nil) (ty_tupleO List.mem_cons_self)
  · have e : frameG dr n = (([("x", lowG (nxt dr n 3), lowG (nxt dr n 3) + 1 + (nxt dr (n + 1) 4 : Int))] : Fr), n + 3) := if_neg c
    rw [e]
    refine rb_cons (γ1 := [some (.adr p), some (.int (lowG (nxt dr n 3))), some (.adr q)]) (o1 := oW ((q, .lst [rowD ("x", lowG (nxt dr n 3), lowG (nxt dr n 3) + 1 + (nxt dr (n + 1) 4 : Int))]) :: o0) p dr (n + 3))
      (rs_ifF (rt_eq (rt_cm (re_call h1 hr (by exact ra_cons (by walk_at "var") (ra_cons re_int ra_nil)) (by exact ⟨dr, _, p, n + 2, 3, hdr, hw2 _, by decide, oW_cons hqp, rfl, rfl, rfl⟩) rfl) re_int cmp_gtI (nomark _)) (decide_eq_false (fun h => c (lt3.mp h)))) rb_nil) ?_
    rw [← oW_cons hqp]
    refine rb_one (rs_ret (re_drop (o1 := (q, .lst [rowD ("x", lowG (nxt dr n 3), lowG (nxt dr n 3) + 1 + (nxt dr (n + 1) 4 : Int))]) :: oW o0 p dr (n + 3)) ?_ (List.sublist_cons_self _ _)))
    exact re_tyc B.tuple (ra_cons (by walk_at "var") ra_nil) (ty_tupleO List.mem_cons_self)
end
end J
end

section
set_option Elab.async false
set_option maxHeartbeats 0
set_option linter.all false
set_option maxRecDepth 100000
/-! _law_both, _law_lot -/
namespace J
open PySem PySem.Spec PyProof.Rows L2
local macro_rules | `(tactic| walk_at "vis") => `(tactic| first | exact Or.inl rfl | exact Or.inr (Or.inl rfl) | exact Or.inr (Or.inr rfl))
local macro_rules | `(tactic| walk_at "loc") => `(tactic| first | exact Or.inl rfl | exact Or.inr rfl)
local macro_rules | `(tactic| walk_at "var") => `(tactic| first
  | exact re_v 0 rfl rfl (by walk_at "vis") | exact re_v 1 rfl rfl (by walk_at "vis") | exact re_v 2 rfl rfl (by walk_at "vis") | exact re_v 3 rfl rfl (by walk_at "vis")
  | exact re_v 4 rfl rfl (by walk_at "vis") | exact re_v 5 rfl rfl (by walk_at "vis") | exact re_v 6 rfl rfl (by walk_at "vis") | exact re_v 7 rfl rfl (by walk_at "vis")
  | exact re_v 8 rfl rfl (by walk_at "vis") | exact re_v 9 rfl rfl (by walk_at "vis") | exact re_v 10 rfl rfl (by walk_at "vis") | exact re_v 11 rfl rfl (by walk_at "vis")
  | exact re_v 12 rfl rfl (by walk_at "vis") | exact re_v 13 rfl rfl (by walk_at "vis") | exact re_v 14 rfl rfl (by walk_at "vis") | exact re_v 15 rfl rfl (by walk_at "vis")
  | exact re_v 16 rfl rfl (by walk_at "vis") | exact re_v 17 rfl rfl (by walk_at "vis") | exact re_v 18 rfl rfl (by walk_at "vis") | exact re_v 19 rfl rfl (by walk_at "vis"))
local macro_rules | `(tactic| walk_at "ix") => `(tactic| first | exact ix_tupD rfl | exact ix_lstD rfl | exact ix_wtD rfl)
local macro_rules | `(tactic| walk_at "len") => `(tactic| first | exact Nat.le_of_ble_eq_true rfl | assumption | (simp; done) | (simp; omega))
local macro_rules | `(tactic| walk_at "ra") => `(tactic| first | ((with_reducible show RA _ [] _ _ _ _); exact ra_nil) | ((with_reducible show RA _ (_ :: _) _ _ _ _); exact ra_cons (by walk_at "ev") (by walk_at "ra")))
local macro_rules | `(tactic| walk_at "bin") => `(tactic| first | exact bin_addI | exact bin_subI | exact bin_addT (by walk_at "len") | exact bin_addL (by walk_at "len"))
local macro_rules | `(tactic| walk_at "ev") => `(tactic| first
  | ((with_reducible show RE _ (Expr.Name _ _) _ _ _ _); walk_at "var")
  | ((with_reducible show RE _ (Expr.Constant _ _ _) _ _ _ _); first | exact re_int | exact re_str | exact re_bl | exact re_non)
  | ((with_reducible show RE _ (Expr.Tuple _ _ _) _ _ _ _); exact re_tup (by walk_at "ra") (by walk_at "len"))
  | ((with_reducible show RE _ (Expr.List _ _) _ _ _ _); exact re_lst (by walk_at "ra") (by walk_at "len"))
  | ((with_reducible show RE _ (Expr.Subscript _ _ _) _ _ _ _); exact re_sub (by walk_at "ev") (by walk_at "ev") (by walk_at "ix"))
  | ((with_reducible show RE _ (Expr.BinOp _ _ _ _) _ _ _ _); exact re_bin (by walk_at "ev") (by walk_at "ev") (by walk_at "bin"))
  | assumption)
def bothL (a b : List (List Int)) : List (List Int) := a.filter fun s => decide (s ∈ b)
def lotG (dr : List Int) : Nat → List (List Int) → List (List Int)
  | _, [] => []
  | n, s :: r => if 0 < nxt dr n 3 then s :: lotG dr (n + 1) r else lotG dr (n + 1) r
theorem lotG_sub (dr : List Int) : ∀ (L : List (List Int)) (n : Nat), (lotG dr n L).Sublist L
  | [], _ => .slnil
  | s :: r, n => by
    unfold lotG
    split
    · exact (lotG_sub dr r (n + 1)).cons_cons s
    · exact (lotG_sub dr r (n + 1)).cons s
theorem lot_collect (dr : List Int) (n : Nat) : ∀ (L : List (List Int)) (i : Nat), collect (fun i _ => decide (0 < nxt dr (n + i) 3)) (fun _ s => stD s) i L = (lotG dr (n + i) L).map stD
  | [], _ => rfl
  | s :: r, i => by
    have ih := lot_collect dr n r (i + 1)
    unfold collect lotG
    by_cases c : 0 < nxt dr (n + i) 3
    · rw [if_pos (decide_eq_true c), if_pos c, ih]; rfl
    · rw [if_neg (by rw [decide_eq_false c]; decide), if_neg c, ih]; rfl
section
variable {P : Program} {w : World} {K : PySem.W.Frag} {mg : Str → Option Value} {base : Heap} {f : Addr} {fd : FuncData}
abbrev RBothL : List D → Own → D → Own → Prop := fun ds o d o' => ∃ a b : List (List Int), a.length ≤ 1000 ∧ ds = [.tup (a.map stD), .tup (b.map stD)] ∧ d = .tup ((bothL a b).map stD) ∧ o' = o
theorem has_law_both (F : Fun K "_law_both" "_law_both" s__law_both f fd) (hm : mg "_law_both" = some (.ref f)) (B : Bi mg) : Has P w K mg base "_law_both" 1 2 RBothL := by
  refine has_mk F sc__law_both hm (F.binds fun _ _ _ _ _ _ us hl => match us, hl with | [_, _], _ => rfl) (by rintro _ _ _ _ ⟨a, b, _, rfl, _⟩; rfl) fun cdv A outer s0 H E ds o d o' hr hR => ?_
  obtain ⟨a, b, hl, rfl, rfl, rfl⟩ := hR
  refine rb_one (rs_ret (re_tyc B.tuple (ra_cons (re_l (rl_lc [("state", 2)] a stD (fun s => [some (.tup (a.map stD)), some (.tup (b.map stD)), some (stD s)]) [2] (fun s => decide (s ∈ b)) stD rfl sc__law_both.nd (ri_tup (by walk_at "var")) (blkOk_by (N := n__law_both) (sc := defScope s__law_both) (by decide +kernel)) (fun s1 H1 C cl fp s hs => ⟨rg_name 2 sc__law_both.nd rfl (by walk_at "loc"), rts_one (rt_cm (by walk_at "var") (by walk_at "var") (cmp_inSt (J.Room.u65 hr) .tup) (by rfl)), fun _ => by walk_at "var"⟩) (by decide) (by omega))) ra_nil) ty_tuple))
abbrev RLot : List D → Own → D → Own → Prop := fun ds o d o' => ∃ (dr : List Int) (o0 : Own) (p : Addr) (n : Nat) (L : List (List Int)), DrOk dr ∧ IsW o0 p ∧ L.length ≤ 1000 ∧ o = oW o0 p dr n ∧ ds = [.adr p, .lst (L.map stD)] ∧ d = .tup ((lotG dr n L).map stD) ∧ o' = oW o0 p dr (n + L.length)
theorem has_law_lot (F : Fun K "_law_lot" "_law_lot" s__law_lot f fd) (hm : mg "_law_lot" = some (.ref f)) (B : Bi mg) (h1 : Has P w K mg base "_law_next" 1 2 RNext) : Has P w K mg base "_law_lot" 2 2 RLot := by
  refine has_mk F sc__law_lot hm (F.binds fun _ _ _ _ _ _ us hl => match us, hl with | [_, _], _ => rfl) (by rintro _ _ _ _ ⟨dr, o0, p, n, L, _, _, _, _, rfl, _⟩; rfl) fun cdv A outer s0 H E ds o d o' hr hR => ?_
  obtain ⟨dr, o0, p, n, L, hdr, hw, hl, rfl, rfl, rfl, rfl⟩ := hR
  have e := lot_collect dr n L 0
  rw [Nat.add_zero] at e
  rw [← e]
  refine rb_one (rs_ret (re_tyc B.tuple (ra_cons (re_l (rl_lcI (own := [("state", 2)]) L stD (fun _ s => [some (.adr p), some (.lst (L.map stD)), some (stD s)]) [2] (fun i => oW o0 p dr (n + i)) (fun i _ => decide (0 < nxt dr (n + i) 3)) (fun i _ => oW o0 p dr (n + i + 1)) (fun _ s => stD s) rfl sc__law_lot.nd (ri_list (by walk_at "var")) (blkOk_by (N := n__law_lot) (sc := defScope s__law_lot) (by decide +kernel))
    ⟨fun s1 H1 C cl fp i s hs => ⟨rg_name 2 sc__law_lot.nd rfl (by walk_at "loc"), rts_one (rt_eq (rt_cm (re_call h1 hr (by exact ra_cons (by walk_at "var") (ra_cons re_int ra_nil)) (by exact ⟨dr, o0, p, n + i, 3, hdr, hw, by decide, rfl, rfl, rfl, rfl⟩) rfl) re_int cmp_gtI (nomark _)) (decide_eq_decide.mpr (by omega))), fun _ => by walk_at "var"⟩, fun _ _ _ _ => rfl⟩ (by decide) (by omega))) ra_nil) ty_tuple))
end
end J
end

section
set_option Elab.async false
set_option maxHeartbeats 0
set_option linter.all false
set_option maxRecDepth 100000
/-! _law_some -/
namespace J
open PySem PySem.Spec PyProof.Rows L2
local macro_rules | `(tactic| walk_at "vis") => `(tactic| first | exact Or.inl rfl | exact Or.inr (Or.inl rfl) | exact Or.inr (Or.inr rfl))
local macro_rules | `(tactic| walk_at "loc") => `(tactic| first | exact Or.inl rfl | exact Or.inr rfl)
local macro_rules | `(tactic| walk_at "var") => `(tactic| first
  | exact re_v 0 rfl rfl (by walk_at "vis") | exact re_v 1 rfl rfl (by walk_at "vis") | exact re_v 2 rfl rfl (by walk_at "vis") | exact re_v 3 rfl rfl (by walk_at "vis")
  | exact re_v 4 rfl rfl (by walk_at "vis") | exact re_v 5 rfl rfl (by walk_at "vis") | exact re_v 6 rfl rfl (by walk_at "vis") | exact re_v 7 rfl rfl (by walk_at "vis")
  | exact re_v 8 rfl rfl (by walk_at "vis") | exact re_v 9 rfl rfl (by walk_at "vis") | exact re_v 10 rfl rfl (by walk_at "vis") | exact re_v 11 rfl rfl (by walk_at "vis")
  | exact re_v 12 rfl rfl (by walk_at "vis") | exact re_v 13 rfl rfl (by walk_at "vis") | exact re_v 14 rfl rfl (by walk_at "vis") | exact re_v 15 rfl rfl (by walk_at "vis")
  | exact re_v 16 rfl rfl (by walk_at "vis") | exact re_v 17 rfl rfl (by walk_at "vis") | exact re_v 18 rfl rfl (by walk_at "vis") | exact re_v 19 rfl rfl (by walk_at "vis"))
local macro_rules | `(tactic| walk_at "ix") => `(tactic| first | exact ix_tupD rfl | exact ix_lstD rfl | exact ix_wtD rfl)
local macro_rules | `(tactic| walk_at "len") => `(tactic| first | exact Nat.le_of_ble_eq_true rfl | assumption | (simp; done) | (simp; omega))
local macro_rules | `(tactic| walk_at "ra") => `(tactic| first | ((with_reducible show RA _ [] _ _ _ _); exact ra_nil) | ((with_reducible show RA _ (_ :: _) _ _ _ _); exact ra_cons (by walk_at "ev") (by walk_at "ra")))
local macro_rules | `(tactic| walk_at "bin") => `(tactic| first | exact bin_addI | exact bin_subI | exact bin_addT (by walk_at "len") | exact bin_addL (by walk_at "len"))
local macro_rules | `(tactic| walk_at "ev") => `(tactic| first
  | ((with_reducible show RE _ (Expr.Name _ _) _ _ _ _); walk_at "var")
  | ((with_reducible show RE _ (Expr.Constant _ _ _) _ _ _ _); first | exact re_int | exact re_str | exact re_bl | exact re_non)
  | ((with_reducible show RE _ (Expr.Tuple _ _ _) _ _ _ _); exact re_tup (by walk_at "ra") (by walk_at "len"))
  | ((with_reducible show RE _ (Expr.List _ _) _ _ _ _); exact re_lst (by walk_at "ra") (by walk_at "len"))
  | ((with_reducible show RE _ (Expr.Subscript _ _ _) _ _ _ _); exact re_sub (by walk_at "ev") (by walk_at "ev") (by walk_at "ix"))
  | ((with_reducible show RE _ (Expr.BinOp _ _ _ _) _ _ _ _); exact re_bin (by walk_at "ev") (by walk_at "ev") (by walk_at "bin"))
  | assumption)
def keepG {α : Type} (dr : List Int) : Nat → List α → List α
  | _, [] => []
  | n, s :: r => if 0 < nxt dr n 3 then s :: keepG dr (n + 1) r else keepG dr (n + 1) r
theorem keepG_sub {α : Type} (dr : List Int) : ∀ (L : List α) (n : Nat), (keepG dr n L).Sublist L
  | [], _ => .slnil
  | s :: r, n => by
    unfold keepG
    split
    · exact (keepG_sub dr r (n + 1)).cons_cons s
    · exact (keepG_sub dr r (n + 1)).cons s
theorem keep_collect {α : Type} (g : α → D) (dr : List Int) (n : Nat) : ∀ (L : List α) (i : Nat), collect (fun i _ => decide (0 < nxt dr (n + i) 3)) (fun _ s => g s) i L = (keepG dr (n + i) L).map g
  | [], _ => rfl
  | s :: r, i => by
    have ih := keep_collect g dr n r (i + 1)
    unfold collect keepG
    by_cases c : 0 < nxt dr (n + i) 3
    · rw [if_pos (decide_eq_true c), if_pos c, ih]; rfl
    · rw [if_neg (by rw [decide_eq_false c]; decide), if_neg c, ih]; rfl
/-- some names, one at least -/
def someG (dr : List Int) (fr : Fr) (n : Nat) : List Str := if (keepG dr n (namesF fr)).isEmpty = true then (namesF fr).take 1 else keepG dr n (namesF fr)
theorem someG_sub (dr : List Int) (fr : Fr) (n : Nat) : (someG dr fr n).Sublist (namesF fr) := by
  unfold someG
  split
  · exact List.take_sublist _ _
  · exact keepG_sub dr _ n
section
variable {P : Program} {w : World} {K : PySem.W.Frag} {mg : Str → Option Value} {base : Heap} {f : Addr} {fd : FuncData}
abbrev RSome : List D → Own → D → Own → Prop := fun ds o d o' => ∃ (dr : List Int) (o0 : Own) (p : Addr) (n : Nat) (fr : Fr), DrOk dr ∧ IsW o0 p ∧ fr.length ≤ 100 ∧ 1 ≤ fr.length ∧ o = oW o0 p dr n ∧ ds = [.adr p, frD fr] ∧ d = .tup ((someG dr fr n).map .str) ∧ o' = oW o0 p dr (n + fr.length)
theorem has_law_some (F : Fun K "_law_some" "_law_some" s__law_some f fd) (hm : mg "_law_some" = some (.ref f)) (B : Bi mg) (h1 : Has P w K mg base "_law_next" 1 2 RNext) : Has P w K mg base "_law_some" 2 2 RSome := by
  refine has_mk F sc__law_some hm (F.binds fun _ _ _ _ _ _ us hl => match us, hl with | [_, _], _ => rfl) (by rintro _ _ _ _ ⟨dr, o0, p, n, fr, _, _, _, _, _, rfl, _⟩; rfl) fun cdv A outer s0 H E ds o d o' hr hR => ?_
  obtain ⟨dr, o0, p, n, fr, hdr, hw, hl, h0, rfl, rfl, rfl, rfl⟩ := hR
  have hnl : (namesF fr).length = fr.length := List.length_map _
  have e := keep_collect D.str dr n (namesF fr) 0
  rw [Nat.add_zero] at e
  refine rb_cons (γ1 := [some (.adr p), some (frD fr), some (.lst ((namesF fr).map .str)), none, none, none]) (o1 := oW o0 p dr n) (rs_setL (d := .lst ((namesF fr).map .str)) (o1 := oW o0 p dr n) 2 sc__law_some.nd rfl rfl (rl_eq (rl_map [("own", 4)] fr rowD (fun r => [some (.adr p), some (frD fr), none, none, some (rowD r), none]) [4] (fun r => .str r.1) rfl sc__law_some.nd (ri_tup (by walk_at "var")) (blkOk_by (N := n__law_some) (sc := defScope s__law_some) (by decide +kernel)) (fun s1 H1 C cl fp r hr => ⟨rg_name 4 sc__law_some.nd rfl (by walk_at "loc"), re_sub (by walk_at "var") re_int (ix_tupD rfl)⟩) (by decide) (by omega)) (by unfold namesF; rw [List.map_map]; rfl)) rfl) ?_
  refine rb_cons (γ1 := [some (.adr p), some (frD fr), some (.lst ((namesF fr).map .str)), some (.lst ((keepG dr n (namesF fr)).map .str)), none, none]) (o1 := oW o0 p dr (n + fr.length)) (rs_setL (d := .lst ((keepG dr n (namesF fr)).map .str)) (o1 := oW o0 p dr (n + fr.length)) 3 sc__law_some.nd rfl rfl ?_ rfl) ?_
  · rw [← e, ← hnl]
    exact rl_lcI (own := [("name", 5)]) (namesF fr) D.str (fun _ x => [some (.adr p), some (frD fr), some (.lst ((namesF fr).map .str)), none, none, some (.str x)]) [5] (fun i => oW o0 p dr (n + i)) (fun i _ => decide (0 < nxt dr (n + i) 3)) (fun i _ => oW o0 p dr (n + i + 1)) (fun _ x => D.str x) rfl sc__law_some.nd (ri_list (by walk_at "var")) (blkOk_by (N := n__law_some) (sc := defScope s__law_some) (by decide +kernel))
      ⟨fun s1 H1 C cl fp i s hs => ⟨rg_name 5 sc__law_some.nd rfl (by walk_at "loc"), rts_one (rt_eq (rt_cm (re_call h1 hr (by exact ra_cons (by walk_at "var") (ra_cons re_int ra_nil)) (by exact ⟨dr, o0, p, n + i, 3, hdr, hw, by decide, rfl, rfl, rfl, rfl⟩) rfl) re_int cmp_gtI (nomark _)) (decide_eq_decide.mpr (by omega))), fun _ => by walk_at "var"⟩, fun _ _ _ _ => rfl⟩ (by decide) (by omega)
  · refine rb_one (rs_ret (re_tyc B.tuple (ra_cons (re_ifB (d := .lst ((someG dr fr n).map .str)) (rt_cm (by walk_at "var") (re_lst ra_nil (by decide)) (cmp_neNil (J.Room.u0 hr) .lst) (nomark _)) (fun c => ?_) fun c => ?_) ra_nil) ty_tuple))
    · rw [List.isEmpty_map] at c
      unfold someG
      rw [if_neg (by simpa using c)]
      exact by walk_at "var"
    · rw [List.isEmpty_map] at c
      unfold someG
      rw [if_pos (by simpa using c)]
      refine re_eq (re_slL (by walk_at "var") ro_none (ro_some re_int)) ?_
      have z := cut_to (ds := (namesF fr).map D.str) (j := 1) (by rw [List.length_map, hnl]; exact h0)
      have y : ((namesF fr).map D.str).take 1 = ((namesF fr).take 1).map D.str := List.map_take.symm
      exact congrArg D.lst (z.trans y)
end
end J
end

section
set_option Elab.async false
set_option maxHeartbeats 0
set_option linter.all false
set_option maxRecDepth 100000
/-! _law_states -/
namespace J
open PySem PySem.Spec PyProof.Rows L2
local macro_rules | `(tactic| walk_at "vis") => `(tactic| first | exact Or.inl rfl | exact Or.inr (Or.inl rfl) | exact Or.inr (Or.inr rfl))
local macro_rules | `(tactic| walk_at "loc") => `(tactic| first | exact Or.inl rfl | exact Or.inr rfl)
local macro_rules | `(tactic| walk_at "var") => `(tactic| first
  | exact re_v 0 rfl rfl (by walk_at "vis") | exact re_v 1 rfl rfl (by walk_at "vis") | exact re_v 2 rfl rfl (by walk_at "vis") | exact re_v 3 rfl rfl (by walk_at "vis")
  | exact re_v 4 rfl rfl (by walk_at "vis") | exact re_v 5 rfl rfl (by walk_at "vis") | exact re_v 6 rfl rfl (by walk_at "vis") | exact re_v 7 rfl rfl (by walk_at "vis")
  | exact re_v 8 rfl rfl (by walk_at "vis") | exact re_v 9 rfl rfl (by walk_at "vis") | exact re_v 10 rfl rfl (by walk_at "vis") | exact re_v 11 rfl rfl (by walk_at "vis")
  | exact re_v 12 rfl rfl (by walk_at "vis") | exact re_v 13 rfl rfl (by walk_at "vis") | exact re_v 14 rfl rfl (by walk_at "vis") | exact re_v 15 rfl rfl (by walk_at "vis")
  | exact re_v 16 rfl rfl (by walk_at "vis") | exact re_v 17 rfl rfl (by walk_at "vis") | exact re_v 18 rfl rfl (by walk_at "vis") | exact re_v 19 rfl rfl (by walk_at "vis"))
local macro_rules | `(tactic| walk_at "ix") => `(tactic| first | exact ix_tupD rfl | exact ix_lstD rfl | exact ix_wtD rfl)
local macro_rules | `(tactic| walk_at "len") => `(tactic| first | exact Nat.le_of_ble_eq_true rfl | assumption | (simp; done) | (simp; omega))
local macro_rules | `(tactic| walk_at "ra") => `(tactic| first | ((with_reducible show RA _ [] _ _ _ _); exact ra_nil) | ((with_reducible show RA _ (_ :: _) _ _ _ _); exact ra_cons (by walk_at "ev") (by walk_at "ra")))
local macro_rules | `(tactic| walk_at "bin") => `(tactic| first | exact bin_addI | exact bin_subI | exact bin_addT (by walk_at "len") | exact bin_addL (by walk_at "len"))
local macro_rules | `(tactic| walk_at "ev") => `(tactic| first
  | ((with_reducible show RE _ (Expr.Name _ _) _ _ _ _); walk_at "var")
  | ((with_reducible show RE _ (Expr.Constant _ _ _) _ _ _ _); first | exact re_int | exact re_str | exact re_bl | exact re_non)
  | ((with_reducible show RE _ (Expr.Tuple _ _ _) _ _ _ _); exact re_tup (by walk_at "ra") (by walk_at "len"))
  | ((with_reducible show RE _ (Expr.List _ _) _ _ _ _); exact re_lst (by walk_at "ra") (by walk_at "len"))
  | ((with_reducible show RE _ (Expr.Subscript _ _ _) _ _ _ _); exact re_sub (by walk_at "ev") (by walk_at "ev") (by walk_at "ix"))
  | ((with_reducible show RE _ (Expr.BinOp _ _ _ _) _ _ _ _); exact re_bin (by walk_at "ev") (by walk_at "ev") (by walk_at "bin"))
  | assumption)
section
variable {P : Program} {w : World} {K : PySem.W.Frag} {mg : Str → Option Value} {base : Heap} {f : Addr} {fd : FuncData}
def stepS (r : Row) (L : List (List Int)) : List (List Int) := L.flatMap fun s => (numsF r.2.1 r.2.2).map fun v => s ++ [v]
theorem stepS_snoc (r : Row) (L : List (List Int)) (s : List Int) : stepS r (L ++ [s]) = stepS r L ++ (numsF r.2.1 r.2.2).map fun v => s ++ [v] := by
  unfold stepS
  rw [List.flatMap_append, List.flatMap_singleton]
theorem stepS_pre (r : Row) (L : List (List Int)) (j : Nat) : (stepS r (L.take j)).length ≤ (stepS r L).length := by
  have h : stepS r L = stepS r (L.take j) ++ stepS r (L.drop j) := by
    unfold stepS
    rw [← List.flatMap_append, List.take_append_drop]
  rw [h, List.length_append]
  omega
theorem statesFrom_step (fr : Fr) (i : Nat) (r : Row) (hi : fr[i]? = some r) : statesFrom [[]] (fr.take (i + 1)) = stepS r (statesFrom [[]] (fr.take i)) := by
  rw [List.take_succ, hi]
  exact statesFrom_snoc r _ _
theorem has_law_states (F : Fun K "_law_states" "_law_states" s__law_states f fd) (hm : mg "_law_states" = some (.ref f)) (B : Bi mg) :
    Has P w K mg base "_law_states" 1 1 (fun ds o d o' => ∃ fr : Fr, FrOk fr ∧ ds = [frD fr] ∧ d = .lst ((statesF fr).map stD) ∧ o' = o) := by
  refine has_mk F sc__law_states hm (F.binds fun _ _ _ _ _ _ us hl => match us, hl with | [_], _ => rfl) (by rintro _ _ _ _ ⟨fr, _, rfl, _⟩; rfl) fun cdv A outer s H E ds o d o' hr hR => ?_
  obtain ⟨fr, hok, rfl, rfl, rfl⟩ := hR
  refine rb_cons (rs_set 1 sc__law_states.nd rfl (by walk_at "loc") (re_lst (ra_cons (re_tup ra_nil (by decide)) ra_nil) (by decide))) ?_
  have hloop : statesF fr = statesFrom [[]] (fr.take fr.length) := by rw [List.take_length]; rfl
  rw [hloop]
  refine rb_cons (rs_for fr rowD (fun i => [some (frD fr), some (.lst ((statesFrom [[]] (fr.take i)).map stD)), none, none, none, none, none, none]) (fun _ => o')
    (fun i r => [some (frD fr), some (.lst ((statesFrom [[]] (fr.take i)).map stD)), some (.str r.1), some (.int r.2.1), some (.int r.2.2), none, none, none]) [2, 3, 4]
    (fun i r => .nx [some (frD fr), some (.lst ((statesFrom [[]] (fr.take (i + 1))).map stD)), some (.str r.1), some (.int r.2.1), some (.int r.2.2), some (.lst ((statesFrom [[]] (fr.take (i + 1))).map stD)), none, none] o') rfl PassesOwn.never (ri_tup (by walk_at "var")) rfl (fun i r hi => ?_) (fun i r hi => ?_)
    (fun i r hi => ⟨_, .inl rfl, .cons _ (.cons _ (.drop _ (.drop _ (.drop _ (.drop _ (.cons _ (.cons _ .nil)))))))⟩)) (rb_one (rs_ret (by walk_at "var")))
  · exact rg_tup rfl (rgs_cons (rg_name 2 sc__law_states.nd rfl (by walk_at "loc")) (rgs_cons (rg_name 3 sc__law_states.nd rfl (by walk_at "loc")) (rgs_cons (rg_name 4 sc__law_states.nd rfl (by walk_at "loc")) rgs_nil)))
  · rw [statesFrom_step fr i r hi]
    have hrow := hok.nums r (List.mem_of_getElem? hi)
    have hsz := hok.size (i + 1)
    rw [statesFrom_step fr i r hi] at hsz
    have hlen : ∀ s ∈ statesFrom [[]] (fr.take i), s.length ≤ 8 := fun s hs => by
      obtain ⟨t, ht, e⟩ := statesFrom_len hs
      rw [List.mem_singleton.mp ht] at e
      have h8 := hok.few
      have h9 : (fr.take i).length ≤ fr.length := by rw [List.length_take]; exact Nat.min_le_right _ _
      have e' : s.length = 0 + (fr.take i).length := e
      omega
    generalize statesFrom [[]] (fr.take i) = L at hsz hlen ⊢
    refine rb_cons (rs_set 5 sc__law_states.nd rfl (by walk_at "loc") (re_lst ra_nil (by decide))) ?_
    refine rb_cons (rs_for L stD (fun j => [some (frD fr), some (.lst (L.map stD)), some (.str r.1), some (.int r.2.1), some (.int r.2.2), some (.lst ((stepS r (L.take j)).map stD)), none, none]) (fun _ => o')
      (fun j s => [some (frD fr), some (.lst (L.map stD)), some (.str r.1), some (.int r.2.1), some (.int r.2.2), some (.lst ((stepS r (L.take j)).map stD)), some (stD s), none]) [6]
      (fun j s => .nx [some (frD fr), some (.lst (L.map stD)), some (.str r.1), some (.int r.2.1), some (.int r.2.2), some (.lst ((stepS r (L.take (j + 1))).map stD)), some (stD s), none] o') rfl PassesOwn.never (ri_list (by walk_at "var")) rfl
      (fun j s hj => rg_name 6 sc__law_states.nd rfl (by walk_at "loc")) (fun j s hj => ?_)
      (fun j s hj => ⟨_, .inl rfl, .cons _ (.cons _ (.cons _ (.cons _ (.cons _ (.cons _ (.drop _ (.cons _ .nil)))))))⟩)) ?_
    · have hs : L.take (j + 1) = L.take j ++ [s] := by rw [List.take_succ, hj]; rfl
      rw [hs, stepS_snoc]
      have hz := stepS_pre r L j
      have hz2 := stepS_pre r L (j + 1)
      rw [hs, stepS_snoc, List.length_append, List.length_map] at hz2
      have hl8 := hlen s (List.mem_of_getElem? hj)
      refine rb_one (rs_set 5 sc__law_states.nd rfl (by walk_at "loc") (re_eq (re_bin (by walk_at "var") (re_l (rl_lc [("value", 7)] (numsF r.2.1 r.2.2) D.int (fun v => [some (frD fr), some (.lst (L.map stD)), some (.str r.1), some (.int r.2.1), some (.int r.2.2), some (.lst ((stepS r (L.take j)).map stD)), some (stD s), some (.int v)]) [7] (fun _ => true) (fun v => stD (s ++ [v]))
        rfl sc__law_states.nd (ri_eq (ri_range2 rfl B.range (ra_cons (by walk_at "var") (ra_cons (re_bin (by walk_at "var") re_int bin_addI) ra_nil)) (by omega)) (rangeD_nums _ _)) (blkOk_by (N := n__law_states) (sc := defScope s__law_states) (by decide +kernel))
        (fun s1 H1 C cl fp v hv => ⟨rg_name 7 sc__law_states.nd rfl (by walk_at "loc"), rts_nil, fun _ => re_eq (re_bin (by walk_at "var") (re_tup (ra_cons (by walk_at "var") ra_nil) (by walk_at "len")) (bin_addT (by rw [List.length_map]; show s.length + 1 ≤ 100000; omega))) (by unfold stD; rw [List.map_append]; rfl)⟩) (by decide) (by omega))) (bin_addL ?_)) ?_))
      · rw [List.length_map, List.length_map, List.filter_eq_self.mpr (fun _ _ => rfl)]
        omega
      · rw [List.filter_eq_self.mpr (fun _ _ => rfl), List.map_append, List.map_map]
        rfl
    · rw [List.take_length]
      exact rb_one (rs_set 1 sc__law_states.nd rfl (by walk_at "loc") (by walk_at "var"))
end
end J
end

section
set_option Elab.async false
set_option maxHeartbeats 0
set_option linter.all false
set_option maxRecDepth 100000
/-! _law_expr -/
namespace J
open PySem PySem.Spec PyProof.Rows L2
local macro_rules | `(tactic| walk_at "vis") => `(tactic| first | exact Or.inl rfl | exact Or.inr (Or.inl rfl) | exact Or.inr (Or.inr rfl))
local macro_rules | `(tactic| walk_at "loc") => `(tactic| first | exact Or.inl rfl | exact Or.inr rfl)
local macro_rules | `(tactic| walk_at "var") => `(tactic| first
  | exact re_v 0 rfl rfl (by walk_at "vis") | exact re_v 1 rfl rfl (by walk_at "vis") | exact re_v 2 rfl rfl (by walk_at "vis") | exact re_v 3 rfl rfl (by walk_at "vis")
  | exact re_v 4 rfl rfl (by walk_at "vis") | exact re_v 5 rfl rfl (by walk_at "vis") | exact re_v 6 rfl rfl (by walk_at "vis") | exact re_v 7 rfl rfl (by walk_at "vis")
  | exact re_v 8 rfl rfl (by walk_at "vis") | exact re_v 9 rfl rfl (by walk_at "vis") | exact re_v 10 rfl rfl (by walk_at "vis") | exact re_v 11 rfl rfl (by walk_at "vis")
  | exact re_v 12 rfl rfl (by walk_at "vis") | exact re_v 13 rfl rfl (by walk_at "vis") | exact re_v 14 rfl rfl (by walk_at "vis") | exact re_v 15 rfl rfl (by walk_at "vis")
  | exact re_v 16 rfl rfl (by walk_at "vis") | exact re_v 17 rfl rfl (by walk_at "vis") | exact re_v 18 rfl rfl (by walk_at "vis") | exact re_v 19 rfl rfl (by walk_at "vis"))
local macro_rules | `(tactic| walk_at "ix") => `(tactic| first | exact ix_tupD rfl | exact ix_lstD rfl | exact ix_wtD rfl)
local macro_rules | `(tactic| walk_at "len") => `(tactic| first | exact Nat.le_of_ble_eq_true rfl | assumption | (simp; done) | (simp; omega))
local macro_rules | `(tactic| walk_at "ra") => `(tactic| first | ((with_reducible show RA _ [] _ _ _ _); exact ra_nil) | ((with_reducible show RA _ (_ :: _) _ _ _ _); exact ra_cons (by walk_at "ev") (by walk_at "ra")))
local macro_rules | `(tactic| walk_at "bin") => `(tactic| first | exact bin_addI | exact bin_subI | exact bin_addT (by walk_at "len") | exact bin_addL (by walk_at "len"))
local macro_rules | `(tactic| walk_at "ev") => `(tactic| first
  | ((with_reducible show RE _ (Expr.Name _ _) _ _ _ _); walk_at "var")
  | ((with_reducible show RE _ (Expr.Constant _ _ _) _ _ _ _); first | exact re_int | exact re_str | exact re_bl | exact re_non)
  | ((with_reducible show RE _ (Expr.Tuple _ _ _) _ _ _ _); exact re_tup (by walk_at "ra") (by walk_at "len"))
  | ((with_reducible show RE _ (Expr.List _ _) _ _ _ _); exact re_lst (by walk_at "ra") (by walk_at "len"))
  | ((with_reducible show RE _ (Expr.Subscript _ _ _) _ _ _ _); exact re_sub (by walk_at "ev") (by walk_at "ev") (by walk_at "ix"))
  | ((with_reducible show RE _ (Expr.BinOp _ _ _ _) _ _ _ _); exact re_bin (by walk_at "ev") (by walk_at "ev") (by walk_at "bin"))
  | assumption)
def opAt (a : Nat) : Op := [Op.add, .sub, .mul, .min, .max, .add, .sub].getD a .add
def numAt (a : Nat) : Int := [(0 : Int), 1, 2, 3, -1].getD a 0
/-- the name that is drawn -/
def namAt (dr : List Int) (fr : Fr) (n : Nat) : Str := (namesF fr).getD (nxt dr n (namesF fr).length) ""
def leafG (dr : List Int) (fr : Fr) (ol : Bool) (n : Nat) : Exp × Nat :=
  if nxt dr n 3 = 0 then (.num (numAt (nxt dr (n + 1) 5)), n + 2)
  else if ol = true then (if nxt dr (n + 1) 3 = 0 then (.old (namAt dr fr (n + 2)), n + 3) else (.nam (namAt dr fr (n + 2)), n + 3))
  else (.nam (namAt dr fr (n + 1)), n + 2)
def exprG (dr : List Int) (fr : Fr) (ol : Bool) : Nat → Nat → Exp × Nat
  | 0, n => leafG dr fr ol (n + 1)
  | deep + 1, n => if nxt dr n 5 < 2 then leafG dr fr ol (n + 1) else
    (.two (opAt (nxt dr (n + 1) 7)) (exprG dr fr ol deep (n + 2)).1 (exprG dr fr ol deep (exprG dr fr ol deep (n + 2)).2).1, (exprG dr fr ol deep (exprG dr fr ol deep (n + 2)).2).2)
theorem op_at {a : Nat} (h : a < 7) : ([D.str "+", .str "-", .str "*", .str "min", .str "max", .str "+", .str "-"] : List D)[a]? = some (.str (opAt a).str) := by
  rcases (show a = 0 ∨ a = 1 ∨ a = 2 ∨ a = 3 ∨ a = 4 ∨ a = 5 ∨ a = 6 by omega) with rfl | rfl | rfl | rfl | rfl | rfl | rfl <;> rfl
theorem num_at {a : Nat} (h : a < 5) : ([D.int 0, .int 1, .int 2, .int 3, .int (-1)] : List D)[a]? = some (.int (numAt a)) := by
  rcases (show a = 0 ∨ a = 1 ∨ a = 2 ∨ a = 3 ∨ a = 4 by omega) with rfl | rfl | rfl | rfl | rfl <;> rfl
theorem nam_at {dr : List Int} {fr : Fr} {n : Nat} (h : 1 ≤ fr.length) : ((namesF fr).map D.str)[nxt dr n ((namesF fr).map D.str).length]? = some (.str (namAt dr fr n)) := by
  have hl : (namesF fr).length = fr.length := List.length_map _
  have h1 : nxt dr n (namesF fr).length < (namesF fr).length := nxt_lt (by omega)
  rw [List.length_map, List.getElem?_map, List.getElem?_eq_getElem h1]
  unfold namAt
  rw [List.getD_eq_getElem?_getD, List.getElem?_eq_getElem h1]
  rfl
section
variable {P : Program} {w : World} {K : PySem.W.Frag} {mg : Str → Option Value} {base : Heap} {f : Addr} {fd : FuncData}
abbrev RExpr (k : Nat) : List D → Own → D → Own → Prop := fun ds o d o' => ∃ (dr : List Int) (o0 : Own) (p : Addr) (n : Nat) (fr : Fr) (deep : Nat) (ol : Bool), DrOk dr ∧ IsW o0 p ∧ fr.length ≤ 100 ∧ 1 ≤ fr.length ∧ deep ≤ k ∧ o = oW o0 p dr n ∧ ds = [.adr p, frD fr, .int (deep : Int), .bl ol] ∧ d = (exprG dr fr ol deep n).1.D ∧ o' = oW o0 p dr (exprG dr fr ol deep n).2
theorem has_law_expr_of (F : Fun K "_law_expr" "_law_expr" s__law_expr f fd) (hm : mg "_law_expr" = some (.ref f)) (B : Bi mg) (h1 : Has P w K mg base "_law_next" 1 2 RNext) (h2 : Has P w K mg base "_law_pick" 2 2 RPick) (k : Nat)
    (hrec : ∀ j, k = j + 1 → Has P w K mg base "_law_expr" (j + 3) 4 (RExpr j)) : Has P w K mg base "_law_expr" (k + 3) 4 (RExpr k) := by
  refine has_mk (k := k + 2) F sc__law_expr hm (F.binds fun _ _ _ _ _ _ us hl => match us, hl with | [_, _, _, _], _ => rfl) (by rintro _ _ _ _ ⟨dr, o0, p, n, fr, deep, ol, _, _, _, _, _, _, rfl, _⟩; rfl) fun cdv A outer s0 H E ds o d o' hr hR => ?_
  obtain ⟨dr, o0, p, n, fr, deep, ol, hdr, hw, hl, h0, hk, rfl, rfl, rfl, rfl⟩ := hR
  have hr1 : Room 1 (A.deeper (envOfC "_law_expr" (defScope s__law_expr) s0.heap.objs.size f cdv)) := hr.mono (by omega)
  have hr2 : Room 2 (A.deeper (envOfC "_law_expr" (defScope s__law_expr) s0.heap.objs.size f cdv)) := hr.mono (by omega)
  refine rb_cons (γ1 := [some (.adr p), some (frD fr), some (.int (deep : Int)), some (.bl ol), some (.int (nxt dr n 5 : Int)), none, none, none]) (o1 := oW o0 p dr (n + 1)) (rs_set 4 sc__law_expr.nd rfl (by walk_at "loc") (re_call h1 hr1 (by exact ra_cons (by walk_at "var") (ra_cons re_int ra_nil)) (by exact ⟨dr, o0, p, n, 5, hdr, hw, by decide, rfl, rfl, rfl, rfl⟩) rfl)) ?_
  by_cases c : deep = 0 ∨ nxt dr n 5 < 2
  · have e : exprG dr fr ol deep n = leafG dr fr ol (n + 1) := by
      cases deep with
      | zero => rfl
      | succ j => exact if_pos (c.resolve_left (by omega))
    rw [e]
    refine rb_ret (rs_ifT (o1 := oW o0 p dr (n + 1)) (rt_eq (rt_w (rw_or (rt_cm (by walk_at "var") re_int cmp_eqI (nomark _)) (rw_or1 (rt_cm (by walk_at "var") re_int cmp_ltI (nomark _))) (fun _ => rfl))) ?_) ?_)
    · rcases c with c | c
      · rw [decide_eq_true (show (deep : Int) = 0 by omega)]; rfl
      · rw [decide_eq_true (show (nxt dr n 5 : Int) < 2 by omega), Bool.or_true]
    refine rb_cons (γ1 := [some (.adr p), some (frD fr), some (.int (deep : Int)), some (.bl ol), some (.int (nxt dr n 5 : Int)), some (.lst ((namesF fr).map .str)), none, none]) (o1 := oW o0 p dr (n + 1)) (rs_setL (d := .lst ((namesF fr).map .str)) (o1 := oW o0 p dr (n + 1)) 5 sc__law_expr.nd rfl rfl (rl_eq (rl_map [("own", 7)] fr rowD (fun r => [some (.adr p), some (frD fr), some (.int (deep : Int)), some (.bl ol), some (.int (nxt dr n 5 : Int)), none, none, some (rowD r)]) [7] (fun r => .str r.1) rfl sc__law_expr.nd (ri_tup (by walk_at "var")) (blkOk_by (N := n__law_expr) (sc := defScope s__law_expr) (by decide +kernel)) (fun s1 H1 C cl fp r hr => ⟨rg_name 7 sc__law_expr.nd rfl (by walk_at "loc"), re_sub (by walk_at "var") re_int (ix_tupD rfl)⟩) (by decide) (by omega)) (by unfold namesF; rw [List.map_map]; rfl)) rfl) ?_
    by_cases c3 : nxt dr (n + 1) 3 = 0
    · have e3 : leafG dr fr ol (n + 1) = (.num (numAt (nxt dr (n + 2) 5)), n + 3) := if_pos c3
      rw [e3]
      refine rb_ret (rs_ifT (o1 := oW o0 p dr (n + 2)) (rt_eq (rt_cm (re_call h1 hr1 (by exact ra_cons (by walk_at "var") (ra_cons re_int ra_nil)) (by exact ⟨dr, o0, p, n + 1, 3, hdr, hw, by decide, rfl, rfl, rfl, rfl⟩) rfl) re_int cmp_eqI (nomark _)) (decide_eq_true (by omega))) (rb_one (rs_ret ?_)))
      exact re_tup (ra_cons re_str (ra_cons (re_sub (re_tup (ra_cons re_int (ra_cons re_int (ra_cons re_int (ra_cons re_int (ra_cons (re_neg re_int) ra_nil))))) (by walk_at "len")) (re_call h1 hr1 (by exact ra_cons (by walk_at "var") (ra_cons re_int ra_nil)) (by exact ⟨dr, o0, p, n + 2, 5, hdr, hw, by decide, rfl, rfl, rfl, rfl⟩) rfl) (ix_tupD (atI_mk (num_at (nxt_lt (by decide)))))) ra_nil)) (by walk_at "len")
    · refine rb_cons (rs_ifF (o1 := oW o0 p dr (n + 2)) (rt_eq (rt_cm (re_call h1 hr1 (by exact ra_cons (by walk_at "var") (ra_cons re_int ra_nil)) (by exact ⟨dr, o0, p, n + 1, 3, hdr, hw, by decide, rfl, rfl, rfl, rfl⟩) rfl) re_int cmp_eqI (nomark _)) (decide_eq_false (by omega))) rb_nil) (rb_one (rs_ret ?_))
      cases ol with
      | false =>
        have e3 : leafG dr fr false (n + 1) = (.nam (namAt dr fr (n + 2)), n + 3) := by unfold leafG; rw [if_neg c3]; rfl
        rw [e3]
        exact re_tup (ra_cons (o1 := oW o0 p dr (n + 2)) (re_ifF (rt_w (rw_andF (rt_val (by walk_at "var")) pw_any)) re_str) (ra_cons (re_call h2 hr2 (by exact ra_cons (by walk_at "var") (ra_cons (by walk_at "var") ra_nil)) (by exact ⟨dr, o0, p, n + 2, (namesF fr).map D.str, hdr, hw, by rw [List.length_map, show (namesF fr).length = fr.length from List.length_map _]; exact h0, rfl, .inr rfl, nam_at h0, rfl⟩) rfl) ra_nil)) (by walk_at "len")
      | true =>
        have hp : 0 < ((namesF fr).map D.str).length := by rw [List.length_map, show (namesF fr).length = fr.length from List.length_map _]; exact h0
        by_cases c4 : nxt dr (n + 2) 3 = 0
        · have e3 : leafG dr fr true (n + 1) = (.old (namAt dr fr (n + 3)), n + 4) := by unfold leafG; rw [if_neg c3, if_pos rfl, if_pos c4]
          rw [e3]
          exact re_tup (ra_cons (o1 := oW o0 p dr (n + 3)) (re_ifT (o1 := oW o0 p dr (n + 3)) (rt_eq (rt_w (rw_and (o1 := oW o0 p dr (n + 2)) (k := true) (l := true) (rt_val (by walk_at "var")) (rw_and1 (rt_eq (rt_cm (re_call h1 hr1 (by exact ra_cons (by walk_at "var") (ra_cons re_int ra_nil)) (by exact ⟨dr, o0, p, n + 2, 3, hdr, hw, by decide, rfl, rfl, rfl, rfl⟩) rfl) re_int cmp_eqI (nomark _)) (decide_eq_true (by omega)))) (fun h => absurd h (by decide)))) rfl) re_str) (ra_cons (re_call h2 hr2 (by exact ra_cons (by walk_at "var") (ra_cons (by walk_at "var") ra_nil)) (by exact ⟨dr, o0, p, n + 3, (namesF fr).map D.str, hdr, hw, hp, rfl, .inr rfl, nam_at h0, rfl⟩) rfl) ra_nil)) (by walk_at "len")
        · have e3 : leafG dr fr true (n + 1) = (.nam (namAt dr fr (n + 3)), n + 4) := by unfold leafG; rw [if_neg c3, if_pos rfl, if_neg c4]
          rw [e3]
          exact re_tup (ra_cons (o1 := oW o0 p dr (n + 3)) (re_ifF (o1 := oW o0 p dr (n + 3)) (rt_eq (rt_w (rw_and (o1 := oW o0 p dr (n + 2)) (k := true) (l := false) (rt_val (by walk_at "var")) (rw_and1 (rt_eq (rt_cm (re_call h1 hr1 (by exact ra_cons (by walk_at "var") (ra_cons re_int ra_nil)) (by exact ⟨dr, o0, p, n + 2, 3, hdr, hw, by decide, rfl, rfl, rfl, rfl⟩) rfl) re_int cmp_eqI (nomark _)) (decide_eq_false (by omega)))) (fun h => absurd h (by decide)))) rfl) re_str) (ra_cons (re_call h2 hr2 (by exact ra_cons (by walk_at "var") (ra_cons (by walk_at "var") ra_nil)) (by exact ⟨dr, o0, p, n + 3, (namesF fr).map D.str, hdr, hw, hp, rfl, .inr rfl, nam_at h0, rfl⟩) rfl) ra_nil)) (by walk_at "len")
  · have c1 : deep ≠ 0 := fun h => c (.inl h)
    have c2 : ¬nxt dr n 5 < 2 := fun h => c (.inr h)
    obtain ⟨j, rfl⟩ : ∃ j, deep = j + 1 := ⟨deep - 1, by omega⟩
    obtain ⟨i, rfl⟩ : ∃ i, k = i + 1 := ⟨k - 1, by omega⟩
    have hrk := hrec i rfl
    have e : exprG dr fr ol (j + 1) n = (.two (opAt (nxt dr (n + 1) 7)) (exprG dr fr ol j (n + 2)).1 (exprG dr fr ol j (exprG dr fr ol j (n + 2)).2).1, (exprG dr fr ol j (exprG dr fr ol j (n + 2)).2).2) := if_neg c2
    rw [e]
    refine rb_cons (rs_ifF (o1 := oW o0 p dr (n + 1)) (rt_eq (rt_w (rw_or (rt_cm (by walk_at "var") re_int cmp_eqI (nomark _)) (rw_or1 (rt_cm (by walk_at "var") re_int cmp_ltI (nomark _))) (fun _ => rfl))) ?_) rb_nil) ?_
    · rw [decide_eq_false (show ¬((j + 1 : Nat) : Int) = 0 by omega), decide_eq_false (show ¬(nxt dr n 5 : Int) < 2 by omega)]; rfl
    refine rb_cons (γ1 := [some (.adr p), some (frD fr), some (.int ((j + 1 : Nat) : Int)), some (.bl ol), some (.int (nxt dr n 5 : Int)), none, some (.str (opAt (nxt dr (n + 1) 7)).str), none]) (o1 := oW o0 p dr (n + 2)) (rs_set 6 sc__law_expr.nd rfl (by walk_at "loc") (re_sub (re_tup (ra_cons re_str (ra_cons re_str (ra_cons re_str (ra_cons re_str (ra_cons re_str (ra_cons re_str (ra_cons re_str ra_nil))))))) (by walk_at "len")) (re_call h1 hr1 (by exact ra_cons (by walk_at "var") (ra_cons re_int ra_nil)) (by exact ⟨dr, o0, p, n + 1, 7, hdr, hw, by decide, rfl, rfl, rfl, rfl⟩) rfl) (ix_tupD (atI_mk (op_at (nxt_lt (by decide))))))) ?_
    have sub1 : ((j + 1 : Nat) : Int) - 1 = (j : Int) := by omega
    refine rb_one (rs_ret (re_tup (ra_cons re_str (ra_cons (by walk_at "var") (ra_cons (re_call hrk hr (by exact ra_cons (by walk_at "var") (ra_cons (by walk_at "var") (ra_cons (re_eq (re_bin (by walk_at "var") re_int bin_subI) (congrArg D.int sub1)) (ra_cons (by walk_at "var") ra_nil)))) (by exact ⟨dr, o0, p, n + 2, fr, j, ol, hdr, hw, hl, h0, by omega, rfl, rfl, rfl, rfl⟩) rfl)
      (ra_cons (re_call hrk hr (by exact ra_cons (by walk_at "var") (ra_cons (by walk_at "var") (ra_cons (re_eq (re_bin (by walk_at "var") re_int bin_subI) (congrArg D.int sub1)) (ra_cons (by walk_at "var") ra_nil)))) (by exact ⟨dr, o0, p, _, fr, j, ol, hdr, hw, hl, h0, by omega, rfl, rfl, rfl, rfl⟩) rfl) ra_nil)))) (by walk_at "len")))
end
end J
end

section
set_option Elab.async false
set_option linter.all false
set_option maxRecDepth 100000
/-! W: the judgements told from behind: what is wanted of what comes out -/
namespace J
open PySem PySem.Spec PyProof.Rows L2

theorem nm_Eq (b : Expr) : behindInMarks .Eq b = false := nomark b
theorem nm_NotEq (b : Expr) : behindInMarks .NotEq b = false := nomark b
theorem nm_Lt (b : Expr) : behindInMarks .Lt b = false := nomark b
theorem nm_LtE (b : Expr) : behindInMarks .LtE b = false := nomark b
theorem nm_Gt (b : Expr) : behindInMarks .Gt b = false := nomark b
theorem nm_GtE (b : Expr) : behindInMarks .GtE b = false := nomark b
theorem nm_Is (b : Expr) : behindInMarks .Is b = false := nomark b
theorem nm_IsNot (b : Expr) : behindInMarks .IsNot b = false := nomark b
/-! ### tests, statements, blocks -/
def tTG (K : PySem.W.Frag) (γ : Sto) (o : Own) (P : Bool → Own → Prop) : TT := fun σ H Q =>
  ∃ Hb F, Wd K Hb F o H ∧ Stt K Hb γ σ ∧ ∀ b o' Hb' H', P b o' → Ex Hb Hb' → Wd K Hb' F o' H' → Q b H'
structure RTG (X : Cx) (e : Expr) (γ : Sto) (o : Own) (P : Bool → Own → Prop) : Prop where
  p : PT X e (tTG X.K γ o P)
structure RWG (X : Cx) (e : Expr) (γ : Sto) (o : Own) (P : Bool → Own → Prop) : Prop where
  p : PW X e (tTG X.K γ o P)
/-- N: goes on; R: returns; B: break; C: continue -/
def tW (K : PySem.W.Frag) (γ : Sto) (o : Own) (N : Sto → Own → Prop) (R : D → Own → Prop) (B C : Sto → Own → Prop) : TS := fun D σ H => ∃ H0 Hb F, Ex H0 Hb ∧ Wd K Hb F o H ∧ Stt K Hb γ σ ∧
  (∀ γ' o' σ' Hb' H', N γ' o' → Ex H0 Hb' → Wd K Hb' F o' H' → Stt K Hb' γ' σ' → D.nx σ' H') ∧
  (∀ d o' v Hb' H', R d o' → Ex H0 Hb' → Wd K Hb' F o' H' → Den K Hb' v d → D.rt v H') ∧
  (∀ γ' o' σ' Hb' H', B γ' o' → Ex H0 Hb' → Wd K Hb' F o' H' → Stt K Hb' γ' σ' → D.bk σ' H') ∧
  (∀ γ' o' σ' Hb' H', C γ' o' → Ex H0 Hb' → Wd K Hb' F o' H' → Stt K Hb' γ' σ' → D.ct σ' H')
structure WS (X : Cx) (st : Stmt) (γ : Sto) (o : Own) (N : Sto → Own → Prop) (R : D → Own → Prop) (B C : Sto → Own → Prop) : Prop where
  p : PS X st (tW X.K γ o N R B C)
structure WB (X : Cx) (sts : List Stmt) (γ : Sto) (o : Own) (N : Sto → Own → Prop) (R : D → Own → Prop) (B C : Sto → Own → Prop) : Prop where
  p : PSs X sts (tW X.K γ o N R B C)

section
variable {X : Cx} {γ γ' : Sto} {o o1 : Own} {e a b c : Expr} {es rest : List Expr} {d d1 d2 : D} {ds : List D} {pos pos' p : Pos} {P : D → Own → Prop} {T : Bool → Own → Prop}
/-! ### whatever can be shown of a part -/
theorem pe_u : PE X e (fun σ H Q => ∃ γ o P, REG X e γ o P ∧ tEG X.K γ o P σ H Q) := ⟨fun pins s σ H Q I ⟨γ, o, P, h, q⟩ => h.p.run pins s σ H Q I q⟩
theorem pa_u : PA X es (fun σ H Q => ∃ γ o P, RAG X es γ o P ∧ tAG X.K γ o P σ H Q) := ⟨fun pos pins s σ H Q I ⟨γ, o, P, h, q⟩ => h.p.run pos pins s σ H Q I q⟩
theorem pt_u : PT X e (fun σ H Q => ∃ γ o P, RTG X e γ o P ∧ tTG X.K γ o P σ H Q) := ⟨fun pins s σ H Q I ⟨γ, o, P, h, q⟩ => h.p.run pins s σ H Q I q⟩
theorem pw_u : PW X e (fun σ H Q => ∃ γ o P, RWG X e γ o P ∧ tTG X.K γ o P σ H Q) := ⟨fun wh pins s σ H Q I ⟨γ, o, P, h, q⟩ => h.p.run wh pins s σ H Q I q⟩

/-! ### expressions -/
theorem w_mono {P' : D → Own → Prop} (h : REG X e γ o P') (hi : ∀ d o', P' d o' → P d o') : REG X e γ o P := reg_mono h hi
theorem w_of (h : RE X e γ o d o1) (k : P d o1) : REG X e γ o P := reg_mono (reg_of h) (by rintro _ _ ⟨rfl, rfl⟩; exact k)
theorem w_int {i : Int} {j} (k : P (.int i) o) : REG X (.Constant (.int i) j pos) γ o P := w_of re_int k
theorem w_bl {i : Bool} {j} (k : P (.bl i) o) : REG X (.Constant (.bool i) j pos) γ o P := w_of re_bl k
theorem w_str {x : Str} {j} (k : P (.str x) o) : REG X (.Constant (.str x) j pos) γ o P := w_of re_str k
theorem w_non {j} (k : P .non o) : REG X (.Constant .none j pos) γ o P := w_of re_non k
theorem wa_nil {P : List D → Own → Prop} (k : P [] o) : RAG X [] γ o P :=
  ⟨PA.imp pa_nil fun σ H Q ⟨Hb, F, w, s, q⟩ => q [] o [] Hb H k (Ex.refl _) w .nil⟩
theorem wa_cons {P : List D → Own → Prop} (h : REG X e γ o fun d o1 => RAG X es γ o1 fun ds o2 => P (d :: ds) o2) (hs : starEach (e :: es) X.env = (false, eval e X.env) :: starEach es X.env := by rfl) : RAG X (e :: es) γ o P :=
  ⟨PA.imp (pa_cons h.p pa_u hs) fun σ H Q ⟨Hb, F, w, s, q⟩ => ⟨Hb, F, w, s, fun d o1 v Hb1 H1 k e1 w1 n1 => ⟨γ, o1, _, k, Hb1, F, w1, s.mono e1, fun ds o2 vs Hb2 H2 k2 e2 w2 n2 =>
    q (d :: ds) o2 (v :: vs) Hb2 H2 k2 (e1.trans e2) w2 (.cons (n1.mono e2) n2)⟩⟩⟩
theorem wa_of {P : List D → Own → Prop} (h : RA X es γ o ds o1) (k : P ds o1) : RAG X es γ o P :=
  ⟨PA.imp h.p fun σ H Q ⟨Hb, F, w, s, q⟩ => ⟨Hb, F, w, s, fun vs Hb1 H1 e1 w1 n1 => q ds o1 vs Hb1 H1 k e1 w1 n1⟩⟩
theorem w_tup {k} (h : RAG X es γ o fun ds o' => ds.length ≤ 100000 ∧ P (.tup ds) o') : REG X (.Tuple es k pos) γ o P :=
  ⟨PE.imp (pe_tup h.p) fun σ H Q ⟨Hb, F, w, s, q⟩ => ⟨Hb, F, w, s, fun ds o' vs Hb1 H1 p e1 w1 n1 => ⟨by rw [n1.len]; exact Nat.le_trans p.1 (by decide), fun b hb => by
    obtain ⟨w2, e2⟩ := w1.new (u := .tup vs) hb
    exact q _ o' _ _ _ p.2 (e1.trans e2) w2 (.tup upd_same (n1.mono e2))⟩⟩⟩
theorem w_lst (h : RAG X es γ o fun ds o' => ds.length ≤ 100000 ∧ P (.lst ds) o') : REG X (.List es pos) γ o P :=
  ⟨PE.imp (pe_lst h.p) fun σ H Q ⟨Hb, F, w, s, q⟩ => ⟨Hb, F, w, s, fun ds o' vs Hb1 H1 p e1 w1 n1 => ⟨by rw [n1.len]; exact Nat.le_trans p.1 (by decide), fun b hb => by
    obtain ⟨w2, e2⟩ := w1.new (u := .lst vs) hb
    exact q _ o' _ _ _ p.2 (e1.trans e2) w2 (.lst upd_same (n1.mono e2))⟩⟩⟩
/-- a list of one's own -/
theorem w_lstO (h : RAG X es γ o fun ds o' => ds.length ≤ 100000 ∧ ∀ p, Fresh o' p → P (.adr p) ((p, .lst ds) :: o')) : REG X (.List es pos) γ o P :=
  w_mono (reg_lst h fun ds o' k => k.1) (by rintro _ _ ⟨p, ds, o1, k, rfl, hf, rfl⟩; exact k.2 p hf)
theorem w_newT (k : ∀ p, Fresh o p → P (.adr p) ((p, .dT []) :: o)) : REG X (.Dict [] [] pos) γ o P := w_mono reg_newT (by rintro _ _ ⟨p, rfl, hf, rfl⟩; exact k p hf)
theorem w_newK (k : ∀ p, Fresh o p → P (.adr p) ((p, .dK []) :: o)) : REG X (.Dict [] [] pos) γ o P := w_mono reg_newK (by rintro _ _ ⟨p, rfl, hf, rfl⟩; exact k p hf)
theorem OpR.u {f : Value → Value → Sem Value} : OpR X f (fun x y H Q => ∃ r, OpR X f r ∧ r x y H Q) := fun pins s σ H x y v u Q I rx ry ⟨r, h, q⟩ => h pins s σ H x y v u Q I rx ry q
theorem IxR.u : IxR X (fun x y H Q => ∃ r, IxR X r ∧ r x y H Q) := fun a b pins s σ H x y v u Q I rx ry ⟨r, h, q⟩ => h a b pins s σ H x y v u Q I rx ry q
theorem CallR.u {f : Value} : CallR X f (fun xs H Q => ∃ r, CallR X f r ∧ r xs H Q) := fun pins s σ H xs us Q I rs ⟨r, h, q⟩ => h pins s σ H xs us Q I rs q
theorem w_bin {op : Operator} (h : REG X a γ o fun d1 o1 => REG X b γ o1 fun d2 o2 => ∃ d, BinD X op o2 d1 d2 d ∧ P d o2) : REG X (.BinOp a op b pos) γ o P :=
  ⟨PE.imp (pe_op OpR.u h.p pe_u) fun σ H Q ⟨Hb, F, w, s, q⟩ => ⟨Hb, F, w, s, fun d1 o1 x Hb1 H1 k1 e1 w1 n1 => ⟨γ, o1, _, k1, Hb1, F, w1, s.mono e1, fun d2 o2 y Hb2 H2 k2 e2 w2 n2 => by
    obtain ⟨d, hB, k⟩ := k2
    obtain ⟨r, h1, h2⟩ := hB.ex
    exact ⟨r, h1, h2 Hb2 F H2 x y Q w2 (n1.mono e2) n2 fun v Hb3 H3 e3 w3 n3 => q d o2 v Hb3 H3 k (e1.trans (e2.trans e3)) w3 n3⟩⟩⟩⟩
theorem w_cmp {op : CmpOp} (h : REG X a γ o fun d1 o1 => REG X b γ o1 fun d2 o2 => ∃ d, CmpD X op o2 d1 d2 d ∧ P d o2) (hm : behindInMarks op b = false := by first | exact nm_Eq _ | exact nm_NotEq _ | exact nm_Lt _ | exact nm_LtE _ | exact nm_Gt _ | exact nm_GtE _ | exact nm_Is _ | exact nm_IsNot _ | rfl) : REG X (.Compare a [op] [b] pos) γ o P :=
  ⟨PE.imp (pe_cmpR OpR.u h.p pe_u hm) fun σ H Q ⟨Hb, F, w, s, q⟩ => ⟨Hb, F, w, s, fun d1 o1 x Hb1 H1 k1 e1 w1 n1 => ⟨γ, o1, _, k1, Hb1, F, w1, s.mono e1, fun d2 o2 y Hb2 H2 k2 e2 w2 n2 => by
    obtain ⟨d, hB, k⟩ := k2
    obtain ⟨r, h1, h2⟩ := hB.ex
    exact ⟨r, h1, h2 Hb2 F H2 x y Q w2 (n1.mono e2) n2 fun v Hb3 H3 e3 w3 n3 => q d o2 v Hb3 H3 k (e1.trans (e2.trans e3)) w3 n3⟩⟩⟩⟩
theorem wt_cmp {op : CmpOp} (h : REG X a γ o fun d1 o1 => REG X b γ o1 fun d2 o2 => ∃ k, CmpD X op o2 d1 d2 (.bl k) ∧ T k o2) (hm : behindInMarks op b = false := by first | exact nm_Eq _ | exact nm_NotEq _ | exact nm_Lt _ | exact nm_LtE _ | exact nm_Gt _ | exact nm_GtE _ | exact nm_Is _ | exact nm_IsNot _ | rfl) : RTG X (.Compare a [op] [b] pos) γ o T :=
  ⟨PT.imp (pt_cmpR OpR.u h.p pe_u hm) fun σ H Q ⟨Hb, F, w, s, q⟩ => ⟨Hb, F, w, s, fun d1 o1 x Hb1 H1 k1 e1 w1 n1 => ⟨γ, o1, _, k1, Hb1, F, w1, s.mono e1, fun d2 o2 y Hb2 H2 k2 e2 w2 n2 => by
    obtain ⟨c, hB, k⟩ := k2
    obtain ⟨r, h1, h2⟩ := hB.ex
    exact ⟨r, h1, h2 Hb2 F H2 x y _ w2 (n1.mono e2) n2 fun v Hb3 H3 e3 w3 n3 => by
      cases n3
      exact ⟨c, rfl, q c o2 Hb3 H3 k (e1.trans (e2.trans e3)) w3⟩⟩⟩⟩⟩
/-- a op b op c, both tests asked -/
theorem w_sub (h : REG X a γ o fun d1 o1 => REG X b γ o1 fun d2 o2 => ∃ d, IxD X o2 d1 d2 d ∧ P d o2) (hs : PlainIx b := by exact fun _ _ => rfl) : REG X (.Subscript a b pos) γ o P :=
  ⟨PE.imp (pe_ix IxR.u h.p pe_u hs) fun σ H Q ⟨Hb, F, w, s, q⟩ => ⟨Hb, F, w, s, fun d1 o1 x Hb1 H1 k1 e1 w1 n1 => ⟨γ, o1, _, k1, Hb1, F, w1, s.mono e1, fun d2 o2 y Hb2 H2 k2 e2 w2 n2 => by
    obtain ⟨d, hB, k⟩ := k2
    obtain ⟨r, h1, h2⟩ := hB.ex
    exact ⟨r, h1, h2 Hb2 F H2 x y Q w2 (n1.mono e2) n2 fun v Hb3 H3 e3 w3 n3 => q d o2 v Hb3 H3 k (e1.trans (e2.trans e3)) w3 n3⟩⟩⟩⟩
theorem w_not (h : REG X e γ o fun d o1 => ∃ k, d = .bl k ∧ P (.bl (!k)) o1) : REG X (.UnaryOp .Not e pos) γ o P :=
  ⟨PE.imp (pe_not h.p) fun σ H Q ⟨Hb, F, w, s, q⟩ => ⟨Hb, F, w, s, fun d1 o1 x Hb1 H1 k1 e1 w1 n1 => by
    obtain ⟨k, rfl, k2⟩ := k1
    cases n1
    exact ⟨k, rfl, q _ o1 _ Hb1 H1 k2 e1 w1 (.bl _)⟩⟩⟩
theorem w_neg (h : REG X e γ o fun d o1 => ∃ i, d = .int i ∧ P (.int (-i)) o1) : REG X (.UnaryOp .USub e pos) γ o P :=
  ⟨PE.imp (pe_un un_neg h.p) fun σ H Q ⟨Hb, F, w, s, q⟩ => ⟨Hb, F, w, s, fun d1 o1 x Hb1 H1 k1 e1 w1 n1 => by
    obtain ⟨k, rfl, k2⟩ := k1
    cases n1
    exact ⟨k, rfl, q _ o1 _ Hb1 H1 k2 e1 w1 (.int _)⟩⟩⟩
theorem w_ifE (h : RTG X c γ o fun k o1 => (k = true → REG X a γ o1 P) ∧ (k = false → REG X b γ o1 P)) : REG X (.IfExp c a b pos) γ o P :=
  ⟨PE.imp (pe_ifExp h.p pe_u pe_u) fun σ H Q ⟨Hb, F, w, s, q⟩ => ⟨Hb, F, w, s, fun k o1 Hb1 H1 k1 e1 w1 => by
    cases k with
    | true => exact ⟨γ, o1, P, k1.1 rfl, Hb1, F, w1, s.mono e1, fun d o2 v Hb2 H2 k2 e2 w2 n2 => q d o2 v Hb2 H2 k2 (e1.trans e2) w2 n2⟩
    | false => exact ⟨γ, o1, P, k1.2 rfl, Hb1, F, w1, s.mono e1, fun d o2 v Hb2 H2 k2 e2 w2 n2 => q d o2 v Hb2 H2 k2 (e1.trans e2) w2 n2⟩⟩⟩
theorem w_one {op} (h : REG X a γ o P) : REG X (.BoolOp op [a] pos) γ o P := ⟨pe_one h.p⟩
theorem w_and (h : REG X a γ o fun d o1 => ∃ k, d = .bl k ∧ (k = true → REG X (.BoolOp .And (b :: rest) pos) γ o1 P) ∧ (k = false → P (.bl false) o1)) : REG X (.BoolOp .And (a :: b :: rest) pos) γ o P :=
  ⟨PE.imp (pe_and h.p pe_u) fun σ H Q ⟨Hb, F, w, s, q⟩ => ⟨Hb, F, w, s, fun d1 o1 x Hb1 H1 k1 e1 w1 n1 => by
    obtain ⟨k, rfl, k2, k3⟩ := k1
    cases n1
    refine ⟨k, rfl, ?_⟩
    cases k with
    | true => exact ⟨γ, o1, P, k2 rfl, Hb1, F, w1, s.mono e1, fun d o2 v Hb2 H2 k2 e2 w2 n2 => q d o2 v Hb2 H2 k2 (e1.trans e2) w2 n2⟩
    | false => exact q _ o1 _ Hb1 H1 (k3 rfl) e1 w1 (.bl _)⟩⟩
theorem w_or (h : REG X a γ o fun d o1 => ∃ k, d = .bl k ∧ (k = true → P (.bl true) o1) ∧ (k = false → REG X (.BoolOp .Or (b :: rest) pos) γ o1 P)) : REG X (.BoolOp .Or (a :: b :: rest) pos) γ o P :=
  ⟨PE.imp (pe_or h.p pe_u) fun σ H Q ⟨Hb, F, w, s, q⟩ => ⟨Hb, F, w, s, fun d1 o1 x Hb1 H1 k1 e1 w1 n1 => by
    obtain ⟨k, rfl, k2, k3⟩ := k1
    cases n1
    refine ⟨k, rfl, ?_⟩
    cases k with
    | false => exact ⟨γ, o1, P, k3 rfl, Hb1, F, w1, s.mono e1, fun d o2 v Hb2 H2 k2 e2 w2 n2 => q d o2 v Hb2 H2 k2 (e1.trans e2) w2 n2⟩
    | true => exact q _ o1 _ Hb1 H1 (k2 rfl) e1 w1 (.bl _)⟩⟩

/-! ### tests -/
theorem wt_of {k : Bool} (h : RT X e γ o k o1) (q : T k o1) : RTG X e γ o T := ⟨PT.imp h.p fun σ H Q ⟨Hb, F, w, s, r⟩ => ⟨Hb, F, w, s, fun Hb1 H1 e1 w1 => r k o1 Hb1 H1 q e1 w1⟩⟩
theorem wt_val (h : REG X e γ o fun d o1 => ∃ k, d = .bl k ∧ T k o1) (he : ∀ whole, isTrue e X.env whole = (do let v ← whole; standAt e.pos; holding [v] (truthy v)) := by intro _; rfl) : RTG X e γ o T :=
  ⟨PT.imp (pt_val h.p he) fun σ H Q ⟨Hb, F, w, s, q⟩ => ⟨Hb, F, w, s, fun d1 o1 x Hb1 H1 k1 e1 w1 n1 => by
    obtain ⟨k, rfl, k2⟩ := k1
    cases n1
    exact ⟨k, rfl, q k o1 Hb1 H1 k2 e1 w1⟩⟩⟩
theorem wt_not (h : RTG X e γ o fun k o1 => T (!k) o1) : RTG X (.UnaryOp .Not e pos) γ o T :=
  ⟨PT.imp (pt_not h.p) fun σ H Q ⟨Hb, F, w, s, q⟩ => ⟨Hb, F, w, s, fun k o1 Hb1 H1 k1 e1 w1 => q (!k) o1 Hb1 H1 k1 e1 w1⟩⟩
theorem wt_w (h : RWG X e γ o T) : RTG X e γ o T := ⟨h.p.pt⟩
theorem ww_and1 (h : RTG X a γ o T) : RWG X (.BoolOp .And [a] pos) γ o T := ⟨pw_and1 h.p⟩
theorem ww_or1 (h : RTG X a γ o T) : RWG X (.BoolOp .Or [a] pos) γ o T := ⟨pw_or1 h.p⟩
theorem ww_and (h : RTG X a γ o fun k o1 => (k = true → RWG X (.BoolOp .And (b :: rest) pos) γ o1 T) ∧ (k = false → T false o1)) : RWG X (.BoolOp .And (a :: b :: rest) pos) γ o T :=
  ⟨PW.imp (pw_and h.p pw_u) fun σ H Q ⟨Hb, F, w, s, q⟩ => ⟨Hb, F, w, s, fun k o1 Hb1 H1 k1 e1 w1 => by
    cases k with
    | true => exact ⟨γ, o1, T, k1.1 rfl, Hb1, F, w1, s.mono e1, fun k2 o2 Hb2 H2 t2 e2 w2 => q k2 o2 Hb2 H2 t2 (e1.trans e2) w2⟩
    | false => exact q false o1 Hb1 H1 (k1.2 rfl) e1 w1⟩⟩
theorem ww_or (h : RTG X a γ o fun k o1 => (k = true → T true o1) ∧ (k = false → RWG X (.BoolOp .Or (b :: rest) pos) γ o1 T)) : RWG X (.BoolOp .Or (a :: b :: rest) pos) γ o T :=
  ⟨PW.imp (pw_or h.p pw_u) fun σ H Q ⟨Hb, F, w, s, q⟩ => ⟨Hb, F, w, s, fun k o1 Hb1 H1 k1 e1 w1 => by
    cases k with
    | false => exact ⟨γ, o1, T, k1.2 rfl, Hb1, F, w1, s.mono e1, fun k2 o2 Hb2 H2 t2 e2 w2 => q k2 o2 Hb2 H2 t2 (e1.trans e2) w2⟩
    | true => exact q true o1 Hb1 H1 (k1.1 rfl) e1 w1⟩⟩
/-! ### built-ins -/
theorem w_blt {x : Str} {id : String} (hm : X.mg x = none) (ha : RAG X (e :: es) γ o fun ds o1 => ∃ d, BltD X id o1 ds d ∧ P d o1) (hv : bootBuiltins x = some (.builtin id) := by decide +kernel) (hg : Gl X x := by rfl)
    (hn : x ≠ "__name__" := by decide) (hdb : (x == ("__debug__" : Str)) = false := by decide) (he : starEach (e :: es) X.env = (false, eval e X.env) :: starEach es X.env := by rfl) (hpl : (backTo pos (starEach es X.env)).any (·.1) = false := by rfl) :
    REG X (.Call (.Name x p) (e :: es) [] pos) γ o P :=
  ⟨PE.imp (pe_callB CallR.u hg hm hv ha.p hn hdb he hpl) fun σ H Q ⟨Hb, F, w, s, q⟩ => ⟨Hb, F, w, s, fun ds o1 vs Hb1 H1 k1 e1 w1 n1 => by
    obtain ⟨d, hB, k⟩ := k1
    obtain ⟨r, h1, h2⟩ := hB.ex
    exact ⟨r, h1, h2 Hb1 F H1 vs Q w1 n1 fun v Hb3 H3 e3 w3 n3 => q d o1 v Hb3 H3 k (e1.trans e3) w3 n3⟩⟩⟩
theorem w_tyc {x : Str} {id : String} (hm : X.mg x = none) (ha : RAG X (e :: es) γ o fun ds o1 => ∃ d, TyD X id o1 ds d ∧ P d o1) (hv : bootBuiltins x = some (.type id) := by decide +kernel) (hg : Gl X x := by rfl)
    (hn : x ≠ "__name__" := by decide) (hdb : (x == ("__debug__" : Str)) = false := by decide) (he : starEach (e :: es) X.env = (false, eval e X.env) :: starEach es X.env := by rfl) (hpl : (backTo pos (starEach es X.env)).any (·.1) = false := by rfl) :
    REG X (.Call (.Name x p) (e :: es) [] pos) γ o P :=
  ⟨PE.imp (pe_callTy CallR.u hg hm hv ha.p hn hdb he hpl) fun σ H Q ⟨Hb, F, w, s, q⟩ => ⟨Hb, F, w, s, fun ds o1 vs Hb1 H1 k1 e1 w1 n1 => by
    obtain ⟨d, hB, k⟩ := k1
    obtain ⟨r, h1, h2⟩ := hB.ex
    exact ⟨r, h1, h2 Hb1 F H1 vs Q w1 n1 fun v Hb3 H3 e3 w3 n3 => q d o1 v Hb3 H3 k (e1.trans e3) w3 n3⟩⟩⟩
end

/-! ### defs of one's own: Pre, what is given; Post, what comes out -/
def spG (K : PySem.W.Frag) (Pre : List D → Own → Prop) (Post : List D → Own → D → Own → Prop) : Sp := fun vs H Q _ => ∃ Hb F ds o, Wd K Hb F o H ∧ DenL K Hb vs ds ∧ Pre ds o ∧ ∀ d o' v Hb' H', Post ds o d o' → Ex Hb Hb' → Wd K Hb' F o' H' → Den K Hb' v d → Q v H'
structure HasG (P : Program) (w : World) (K : PySem.W.Frag) (mg : Str → Option Value) (base : Heap) (x : Str) (k : Nat) (n : Nat) (Pre : List D → Own → Prop) (Post : List D → Own → D → Own → Prop) : Prop where
  ex : ∃ (f : Addr) (fd : FuncData) (ps : List Str), ps.length = n ∧ FnOk P w K mg base CX0 k f fd ps (spG K Pre Post) ∧ mg x = some (.ref f) ∧ PySem.W.keepIn K (.ref f) = true ∧ Binds K fd ps []
section
variable {P : Program} {w : World} {K : PySem.W.Frag} {mg : Str → Option Value} {base : Heap}
theorem HasG.imp {x : Str} {k k' n : Nat} {Pre Pre' : List D → Own → Prop} {Post Post' : List D → Own → D → Own → Prop} (h : HasG P w K mg base x k n Pre Post) (hk : k ≤ k') (h1 : ∀ ds o, Pre' ds o → Pre ds o) (h2 : ∀ ds o d o', Pre' ds o → Post ds o d o' → Post' ds o d o') :
    HasG P w K mg base x k' n Pre' Post' := by
  obtain ⟨f, fd, ps, l, F, r⟩ := h.ex
  refine ⟨f, fd, ps, l, (F.mono hk).imp fun vs H Q E ⟨Hb, F, ds, o, a1, a2, a3, a4⟩ => ?_, r⟩
  exact ⟨Hb, F, ds, o, a1, a2, h1 _ _ a3, fun d o' v Hb' H' p => a4 d o' v Hb' H' (h2 _ _ _ _ a3 p)⟩
theorem Has.g {x : Str} {k n : Nat} {R : List D → Own → D → Own → Prop} (h : Has P w K mg base x k n R) : HasG P w K mg base x k n (fun ds o => ∃ d o', R ds o d o') R := by
  obtain ⟨f, fd, ps, l, F, r⟩ := h.ex
  refine ⟨f, fd, ps, l, F.imp fun vs H Q E ⟨Hb, F, ds, o, a1, a2, ⟨d, o', a3⟩, a4⟩ => ?_, r⟩
  exact ⟨Hb, F, ds, o, d, o', a1, a2, a3, fun v Hb' H' => a4 d o' v Hb' H' a3⟩
/-- a def by its body -/
theorem hasG_mk {x qual : Str} {st : Stmt} {f : Addr} {fd : FuncData} {N ps : List Str} {k : Nat} {Pre : List D → Own → Prop} {Post : List D → Own → D → Own → Prop} (F : Fun K x qual st f fd) (sc : FnScope N ps (defScope st)) (hm : mg x = some (.ref f)) (hb : Binds K fd ps [])
    (hlen : ∀ ds o, Pre ds o → ds.length = ps.length)
    (body : ∀ (cdv : Value) (A : Around) (outer : List Env) (s : Shared) (H : Hp) (E : XK) (ds : List D) (o : Own), Room k (A.deeper (envOfC qual (defScope st) s.heap.objs.size f cdv)) → N.Nodup → Pre ds o →
      WB (cxOf CX0 P w K mg base N qual (defScope st) f cdv A outer s H E).nox (defBody st) (startG N ds) o (fun _ o' => Post ds o .non o') (Post ds o) (fun _ _ => False) (fun _ _ => False)) : HasG P w K mg base x (k + 1) ps.length Pre Post := by
  refine ⟨f, fd, ps, rfl, F.ok sc (fun vs H Q E h => ?_) (fun cdv A outer s H vs Q E hr h => ?_), hm, F.kp, hb⟩
  · obtain ⟨Hb, F, ds, o, _, l, h, _⟩ := h
    rw [l.len]; exact hlen _ _ h
  · obtain ⟨Hb, F', ds, o, w', l, hR, q⟩ := h
    exact ⟨_, (body cdv A outer s H E ds o hr sc.nd hR).p, Hb, Hb, F', Ex.refl _, w', stt_start l, fun γ' o' σ' Hb1 H1 p e1 w1 s1 => q .non o' .non Hb1 H1 p e1 w1 .non, fun d o' v Hb1 H1 p e1 w1 n1 => q d o' v Hb1 H1 p e1 w1 n1,
      fun _ _ _ _ _ z => z.elim, fun _ _ _ _ _ z => z.elim⟩
/-- .. of which the outcome is known -/
theorem has_mkW {x qual : Str} {st : Stmt} {f : Addr} {fd : FuncData} {N ps : List Str} {k : Nat} {R : List D → Own → D → Own → Prop} (F : Fun K x qual st f fd) (sc : FnScope N ps (defScope st)) (hm : mg x = some (.ref f)) (hb : Binds K fd ps [])
    (hlen : ∀ ds o d o', R ds o d o' → ds.length = ps.length)
    (body : ∀ (cdv : Value) (A : Around) (outer : List Env) (s : Shared) (H : Hp) (E : XK) (ds : List D) (o : Own) (d : D) (o' : Own), Room k (A.deeper (envOfC qual (defScope st) s.heap.objs.size f cdv)) → N.Nodup → R ds o d o' →
      WB (cxOf CX0 P w K mg base N qual (defScope st) f cdv A outer s H E).nox (defBody st) (startG N ds) o (fun _ o2 => D.non = d ∧ o2 = o') (fun d2 o2 => d2 = d ∧ o2 = o') (fun _ _ => False) (fun _ _ => False)) : Has P w K mg base x (k + 1) ps.length R := by
  refine ⟨f, fd, ps, rfl, F.ok sc (fun vs H Q E h => ?_) (fun cdv A outer s H vs Q E hr h => ?_), hm, F.kp, hb⟩
  · obtain ⟨Hb, F, ds, o, d, o', _, l, h, _⟩ := h
    rw [l.len]; exact hlen _ _ _ _ h
  · obtain ⟨Hb, F', ds, o, d, o', w', l, hR, q⟩ := h
    exact ⟨_, (body cdv A outer s H E ds o d o' hr sc.nd hR).p, Hb, Hb, F', Ex.refl _, w', stt_start l, fun γ' o2 σ' Hb1 H1 ⟨p1, p2⟩ e1 w1 s1 => by subst p1 p2; exact q .non Hb1 H1 e1 w1 .non, fun d2 o2 v Hb1 H1 ⟨p1, p2⟩ e1 w1 n1 => by subst p1 p2; exact q v Hb1 H1 e1 w1 n1,
      fun _ _ _ _ _ z => z.elim, fun _ _ _ _ _ z => z.elim⟩
/-- .. its function object told -/
theorem fn_mkW {x qual : Str} {st : Stmt} {f : Addr} {fd : FuncData} {N ps : List Str} {k : Nat} {R : List D → Own → D → Own → Prop} (F : Fun K x qual st f fd) (sc : FnScope N ps (defScope st))
    (hlen : ∀ ds o d o', R ds o d o' → ds.length = ps.length)
    (body : ∀ (cdv : Value) (A : Around) (outer : List Env) (s : Shared) (H : Hp) (E : XK) (ds : List D) (o : Own) (d : D) (o' : Own), Room k (A.deeper (envOfC qual (defScope st) s.heap.objs.size f cdv)) → N.Nodup → R ds o d o' →
      WB (cxOf CX0 P w K mg base N qual (defScope st) f cdv A outer s H E).nox (defBody st) (startG N ds) o (fun _ o2 => D.non = d ∧ o2 = o') (fun d2 o2 => d2 = d ∧ o2 = o') (fun _ _ => False) (fun _ _ => False)) : FnOk P w K mg base CX0 (k + 1) f fd ps (spD K R) := by
  refine F.ok sc (fun vs H Q E h => ?_) (fun cdv A outer s H vs Q E hr h => ?_)
  · obtain ⟨Hb, F, ds, o, d, o', _, l, h, _⟩ := h
    rw [l.len]; exact hlen _ _ _ _ h
  · obtain ⟨Hb, F', ds, o, d, o', w', l, hR, q⟩ := h
    exact ⟨_, (body cdv A outer s H E ds o d o' hr sc.nd hR).p, Hb, Hb, F', Ex.refl _, w', stt_start l, fun γ' o2 σ' Hb1 H1 ⟨p1, p2⟩ e1 w1 s1 => by subst p1 p2; exact q .non Hb1 H1 e1 w1 .non, fun d2 o2 v Hb1 H1 ⟨p1, p2⟩ e1 w1 n1 => by subst p1 p2; exact q v Hb1 H1 e1 w1 n1,
      fun _ _ _ _ _ z => z.elim, fun _ _ _ _ _ z => z.elim⟩
/-- what a law promises -/
def RLaw : List D → Own → D → Own → Prop := fun ds o d o' => ∃ ns : List Int, ns.length ≤ 63 ∧ ds = [.sl (ns.map .int)] ∧ d = .bl true ∧ o' = o
theorem law_sp {K : PySem.W.Frag} (H : Hp) (a : Addr) (ns : List Int) (h : ns.length ≤ 63) (hS : SqL K H a (ns.map V.int)) : spD K RLaw [.ref a] H (fun v _ => v = .bl true) fun _ _ _ => False :=
  ⟨H, fun _ => none, [.sl (ns.map .int)], [], .bl true, [], ⟨Ex.refl _, fun _ _ h => (nomatch h), fun _ => .inr (.inl rfl), fun _ h => (nomatch h), List.nodup_nil⟩, .cons (.sl hS (DenL.ints ns)) .nil, ⟨ns, h, rfl, rfl, rfl⟩, fun v Hb' H' _ _ n => by cases n; rfl⟩
end
section
variable {X : Cx} {γ γ' : Sto} {o o1 : Own} {e a b c : Expr} {es rest : List Expr} {d d1 d2 : D} {ds : List D} {pos pos' p : Pos} {P : D → Own → Prop} {T : Bool → Own → Prop}
theorem w_call {x : Str} {k n : Nat} {Pre : List D → Own → Prop} {Post : List D → Own → D → Own → Prop} (h : HasG X.prog X.w X.K X.mg X.base x k n Pre Post) (hr : Room k X.A) (ha : RAG X (e :: es) γ o fun ds o1 => Pre ds o1 ∧ ∀ d o2, Post ds o1 d o2 → P d o2)
    (hg : Gl X x := by rfl) (hdb : (x == ("__debug__" : Str)) = false := by decide) (he : starEach (e :: es) X.env = (false, eval e X.env) :: starEach es X.env := by rfl) (hpl : (backTo pos (starEach es X.env)).any (·.1) = false := by rfl) :
    REG X (.Call (.Name x p) (e :: es) [] pos) γ o P := by
  obtain ⟨f, fd, ps, l, F, hm, hk, hb⟩ := h.ex
  exact ⟨PE.imp (pe_call F hr hg hm hk hb .nil pass0 ha.p hdb he hpl) fun σ H Q ⟨Hb, F, w, s, q⟩ => ⟨Hb, F, w, s, fun ds o1 vs Hb1 H1 k1 e1 w1 n1 =>
    ⟨Hb1, F, ds, o1, w1, by rw [List.append_nil]; exact n1, k1.1, fun d o2 v Hb3 H3 k3 e3 w3 n3 => q d o2 v Hb3 H3 (k1.2 d o2 k3) (e1.trans e3) w3 n3⟩⟩⟩
/-- a call of which the promise is chosen behind its arguments -/
theorem w_callL {x : Str} (hf : ∃ f, X.mg x = some (.ref f) ∧ PySem.W.keepIn X.K (.ref f) = true) (ha : RAG X (e :: es) γ o fun ds o1 => ∃ k n Pre Post, HasG X.prog X.w X.K X.mg X.base x k n Pre Post ∧ Room k X.A ∧ Pre ds o1 ∧ ∀ d o2, Post ds o1 d o2 → P d o2)
    (hg : Gl X x := by rfl) (hdb : (x == ("__debug__" : Str)) = false := by decide) (he : starEach (e :: es) X.env = (false, eval e X.env) :: starEach es X.env := by rfl) (hpl : (backTo pos (starEach es X.env)).any (·.1) = false := by rfl) :
    REG X (.Call (.Name x p) (e :: es) [] pos) γ o P := by
  obtain ⟨f, hm, hk⟩ := hf
  refine ⟨⟨fun pins s σ H Q I ⟨Hb, F, w, st, q⟩ => ?_⟩⟩
  refine wpAny_Call_Name_kw (ld_glob I hg hm ?_ hdb)
  refine PySem.W.callWith_K (h₀ := X.base) I.ok.mod.kin hk (thn (ha.p.run pos pins s σ H (fun vs H1 => ∃ ds o1 Hb1, (∃ k n Pre Post, HasG X.prog X.w X.K X.mg X.base x k n Pre Post ∧ Room k X.A ∧ Pre ds o1 ∧ ∀ d o2, Post ds o1 d o2 → P d o2) ∧ Ex Hb Hb1 ∧ Wd X.K Hb1 F o1 H1 ∧ DenL X.K Hb1 vs ds) I
    ⟨Hb, F, w, st, fun ds o1 vs Hb1 H1 k1 e1 w1 n1 => ⟨ds, o1, Hb1, k1, e1, w1, n1⟩⟩) fun us s1 ⟨vs, H1, I1, r, ds, o1, Hb1, ⟨k, n, Pre, Post, hh, hr, hp, hq⟩, e1, w1, n1⟩ => ⟨I1.kIn, ?_⟩) he hpl
  obtain ⟨f', fd, ps, l, G, hm', hk', hb⟩ := hh.ex
  rw [hm] at hm'
  cases hm'
  refine run_fn (ds := []) G hr hb .nil pass0 I1 r ?_
  rw [List.append_nil]
  exact ⟨Hb1, F, ds, o1, w1, n1, hp, fun d o2 v Hb3 H3 k3 e3 w3 n3 => q d o2 v Hb3 H3 (hq d o2 k3) (e1.trans e3) w3 n3⟩
theorem HasG.at {x : Str} {k n : Nat} {Pre : List D → Own → Prop} {Post : List D → Own → D → Own → Prop} (h : HasG X.prog X.w X.K X.mg X.base x k n Pre Post) : ∃ f, X.mg x = some (.ref f) ∧ PySem.W.keepIn X.K (.ref f) = true := by
  obtain ⟨f, fd, ps, l, F, hm, hk, hb⟩ := h.ex
  exact ⟨f, hm, hk⟩
/-- .. of which the outcome is known -/
theorem w_callR {x : Str} {k n : Nat} {R : List D → Own → D → Own → Prop} (h : Has X.prog X.w X.K X.mg X.base x k n R) (hr : Room k X.A) (ha : RAG X (e :: es) γ o fun ds o1 => ∃ d o2, R ds o1 d o2 ∧ P d o2)
    (hg : Gl X x := by rfl) (hdb : (x == ("__debug__" : Str)) = false := by decide) (he : starEach (e :: es) X.env = (false, eval e X.env) :: starEach es X.env := by rfl) (hpl : (backTo pos (starEach es X.env)).any (·.1) = false := by rfl) :
    REG X (.Call (.Name x p) (e :: es) [] pos) γ o P := by
  obtain ⟨f, fd, ps, l, F, hm, hk, hb⟩ := h.ex
  exact ⟨PE.imp (pe_call F hr hg hm hk hb .nil pass0 ha.p hdb he hpl) fun σ H Q ⟨Hb, F, w, s, q⟩ => ⟨Hb, F, w, s, fun ds o1 vs Hb1 H1 k1 e1 w1 n1 => by
    obtain ⟨d, o2, hR, k2⟩ := k1
    exact ⟨Hb1, F, ds, o1, d, o2, w1, by rw [List.append_nil]; exact n1, hR, fun v Hb3 H3 e3 w3 n3 => q d o2 v Hb3 H3 k2 (e1.trans e3) w3 n3⟩⟩⟩
end

/-! ### statements -/
section
variable {X : Cx} {γ γ' : Sto} {o o1 : Own} {e a b c : Expr} {es : List Expr} {st : Stmt} {rest body : List Stmt} {d d1 d2 : D} {pos pos' p : Pos} {N B C : Sto → Own → Prop} {R : D → Own → Prop}
theorem pss_u : PSs X rest (fun D σ H => ∃ γ o N R B C, WB X rest γ o N R B C ∧ tW X.K γ o N R B C D σ H) := ⟨fun pins s σ H D I ⟨γ, o, N, R, B, C, h, q⟩ => h.p.run pins s σ H D I q⟩
theorem wb_nil (k : N γ o) : WB X [] γ o N R B C := ⟨PSs.imp pss_nil fun D σ H ⟨H0, Hb, F, e, w, s, q, _⟩ => q γ o σ Hb H k e w s⟩
theorem wb_cons (h : WS X st γ o (fun γ1 o1 => WB X rest γ1 o1 N R B C) R B C) : WB X (st :: rest) γ o N R B C :=
  ⟨PSs.imp (pss_cons h.p pss_u) fun D σ H ⟨H0, Hb, F, e, w, s, q1, q2, q3, q4⟩ => ⟨H0, Hb, F, e, w, s, fun γ1 o1 σ1 Hb1 H1 k e1 w1 s1 => ⟨γ1, o1, N, R, B, C, k, H0, Hb1, F, e1, w1, s1, q1, q2, q3, q4⟩, q2, q3, q4⟩⟩
theorem wb_one (h : WS X st γ o N R B C) : WB X [st] γ o N R B C := ⟨pss_one h.p⟩
theorem ws_mono {N' B' C' : Sto → Own → Prop} {R' : D → Own → Prop} (h : WS X st γ o N' R' B' C') (h1 : ∀ γ o, N' γ o → N γ o) (h2 : ∀ d o, R' d o → R d o) (h3 : ∀ γ o, B' γ o → B γ o) (h4 : ∀ γ o, C' γ o → C γ o) : WS X st γ o N R B C :=
  ⟨PS.imp h.p fun D σ H ⟨H0, Hb, F, e, w, s, q1, q2, q3, q4⟩ => ⟨H0, Hb, F, e, w, s, fun γ' o' σ' Hb' H' k => q1 γ' o' σ' Hb' H' (h1 _ _ k), fun d o' v Hb' H' k => q2 d o' v Hb' H' (h2 _ _ k), fun γ' o' σ' Hb' H' k => q3 γ' o' σ' Hb' H' (h3 _ _ k), fun γ' o' σ' Hb' H' k => q4 γ' o' σ' Hb' H' (h4 _ _ k)⟩⟩
theorem wb_mono {N' B' C' : Sto → Own → Prop} {R' : D → Own → Prop} (h : WB X rest γ o N' R' B' C') (h1 : ∀ γ o, N' γ o → N γ o) (h2 : ∀ d o, R' d o → R d o) (h3 : ∀ γ o, B' γ o → B γ o) (h4 : ∀ γ o, C' γ o → C γ o) : WB X rest γ o N R B C :=
  ⟨PSs.imp h.p fun D σ H ⟨H0, Hb, F, e, w, s, q1, q2, q3, q4⟩ => ⟨H0, Hb, F, e, w, s, fun γ' o' σ' Hb' H' k => q1 γ' o' σ' Hb' H' (h1 _ _ k), fun d o' v Hb' H' k => q2 d o' v Hb' H' (h2 _ _ k), fun γ' o' σ' Hb' H' k => q3 γ' o' σ' Hb' H' (h3 _ _ k), fun γ' o' σ' Hb' H' k => q4 γ' o' σ' Hb' H' (h4 _ _ k)⟩⟩
/-- what is known of a store, forgotten -/
theorem wb_forget (h : WB X rest γ' o N R B C) (l : LeS γ γ') : WB X rest γ o N R B C := ⟨PSs.imp h.p fun D σ H ⟨H0, Hb, F, e, w, s, q⟩ => ⟨H0, Hb, F, e, w, s.forget l, q⟩⟩
/-- what is one's own, forgotten -/
theorem wb_drop (h : WB X rest γ o1 N R B C) (l : o1.Sublist o) : WB X rest γ o N R B C := ⟨PSs.imp h.p fun D σ H ⟨H0, Hb, F, e, w, s, q⟩ => ⟨H0, Hb, F, e, w.drop l, s, q⟩⟩
/-- a statement of which the outcome is known -/
theorem ws_of (h : RS X st γ o (.nx γ' o1)) (k : N γ' o1) : WS X st γ o N R B C :=
  ⟨PS.imp h.p fun D σ H ⟨H0, Hb, F, e, w, s, q, _⟩ => ⟨H0, Hb, F, e, w, s, fun σ1 Hb1 H1 e1 w1 s1 => q γ' o1 σ1 Hb1 H1 k e1 w1 s1⟩⟩
theorem ws_ofG {P2 : Sto → Own → Prop} (h : RSG X st γ o P2) (k : ∀ γ' o', P2 γ' o' → N γ' o') : WS X st γ o N R B C :=
  ⟨PS.imp h.p fun D σ H ⟨H0, Hb, F, e, w, s, q, _⟩ => ⟨H0, Hb, F, e, w, s, fun γ1 o1 σ1 Hb1 H1 p e1 w1 s1 => q γ1 o1 σ1 Hb1 H1 (k _ _ p) e1 w1 s1⟩⟩
theorem ws_pass (k : N γ o) : WS X (.Pass pos) γ o N R B C := ws_of rs_pass k
theorem ws_break (k : B γ o) : WS X (.Break pos) γ o N R B C := ⟨PS.imp ps_break fun D σ H ⟨H0, Hb, F, e, w, s, _, _, q, _⟩ => q γ o σ Hb H k e w s⟩
theorem ws_continue (k : C γ o) : WS X (.Continue pos) γ o N R B C := ⟨PS.imp ps_continue fun D σ H ⟨H0, Hb, F, e, w, s, _, _, _, q⟩ => q γ o σ Hb H k e w s⟩
theorem ws_expr (h : REG X e γ o fun _ o1 => N γ o1) (hs : swapsWith e none pos.line X.env = pure false := by rfl) : WS X (.Expr e pos) γ o N R B C :=
  ⟨PS.imp (ps_expr h.p hs) fun D σ H ⟨H0, Hb, F, e, w, s, q, _⟩ => ⟨Hb, F, w, s, fun d o1 v Hb1 H1 k e1 w1 n1 => q γ o1 σ Hb1 H1 k (e.trans e1) w1 (s.mono e1)⟩⟩
theorem ws_ret (h : REG X e γ o R) : WS X (.Return (some e) pos) γ o N R B C :=
  ⟨PS.imp (ps_ret h.p) fun D σ H ⟨H0, Hb, F, e, w, s, _, q, _⟩ => ⟨Hb, F, w, s, fun d o1 v Hb1 H1 k e1 w1 n1 => q d o1 v Hb1 H1 k (e.trans e1) w1 n1⟩⟩
theorem ws_retN (k : R .non o) : WS X (.Return none pos) γ o N R B C :=
  ⟨PS.imp ps_retN fun D σ H ⟨H0, Hb, F, e, w, s, _, q, _⟩ => q .non o .non Hb H k e w .non⟩
theorem ws_set (i : Nat) {x : Str} {pos' : Pos} (hN : X.N.Nodup) (hi : X.N[i]? = some x) (hx : Loc X.env.scope x) (h : REG X e γ o fun d o1 => N (γ.set i (some d)) o1) (hs : swapsWith e (some (.Name x pos')) pos.line X.env = pure false := by rfl)
    (hf : X.fn x = true ∨ X.env.scope.names.lookup x = some .local := by first | exact .inl rfl | exact .inr rfl | assumption) : WS X (.Assign [.Name x pos'] e pos) γ o N R B C :=
  ⟨PS.imp (ps_set hN hi hx h.p hs hf) fun D σ H ⟨H0, Hb, F, e, w, s, q, _⟩ => ⟨Hb, F, w, s, fun d o1 v Hb1 H1 k e1 w1 n1 => q _ o1 _ Hb1 H1 k (e.trans e1) w1 ((s.mono e1).set i n1)⟩⟩
theorem ws_unp {tg : Expr} (h : REG X e γ o fun d o1 => ∃ γ' ix, RG X tg d γ γ' ix ∧ N γ' o1) (hs : swapsWithSole [tg] e pos.line X.env = pure false := by rfl) (hw : swappedStores [tg] e X.env = pure none := by rfl) (h1 : (assignEach [tg] X.env).map (·.2) = [assign tg X.env] := by rfl) :
    WS X (.Assign [tg] e pos) γ o N R B C := by
  have hg : PG X tg (fun v σ H Q => ∃ d γ γ' ix, RG X tg d γ γ' ix ∧ tG X.K d γ γ' ix v σ H Q) := ⟨fun pins s1 σ H1 v u Q I r ⟨d, γ, γ', ix, h, q⟩ => h.p.run pins s1 σ H1 v u Q I r q⟩
  exact ⟨PS.imp (ps_asg h.p hg hs hw h1) fun D σ H ⟨H0, Hb, F, e, w, s, q, _⟩ => ⟨Hb, F, w, s, fun d o1 v Hb1 H1 ⟨γ', ix, g, k⟩ e1 w1 n1 => ⟨d, γ, γ', ix, g, Hb1, w1.b, s.mono e1, n1, fun σ' s' _ => q _ o1 _ Hb1 H1 k (e.trans e1) w1 s'⟩⟩⟩
/-- a, b = e1, e2, both locals -/
theorem ws_par (i j : Nat) {x y : Str} {a b : Expr} {px py pt : Pos} {kt k2 pt2} (hc : X.calm = true) (hN : X.N.Nodup) (hi : X.N[i]? = some x) (hj : X.N[j]? = some y) (hij : i ≠ j)
    (hx : X.env.scope.names.lookup x = some .local) (hy : X.env.scope.names.lookup y = some .local) (ha : RAG X [a, b] γ o fun ds o1 => ∃ d1 d2, ds = [d1, d2] ∧ N ((γ.set i (some d1)).set j (some d2)) o1)
    (hw : swappedStores [.Tuple [.Name x px, .Name y py] kt pt] (.Tuple [a, b] k2 pt2) X.env = pure (some [x, y]))
    (hs : swapsWithSole [.Tuple [.Name x px, .Name y py] kt pt] (.Tuple [a, b] k2 pt2) pos.line X.env = pure false := by rfl) :
    WS X (.Assign [.Tuple [.Name x px, .Name y py] kt pt] (.Tuple [a, b] k2 pt2) pos) γ o N R B C :=
  ⟨PS.imp (ps_par hc hN hi hj hij hx hy ha.p hw hs) fun D σ H ⟨H0, Hb, F, e, w, s, q, _⟩ => ⟨Hb, F, w, s, fun ds o1 vs Hb1 H1 ⟨d1, d2, ed, k⟩ e1 w1 n1 => by
    subst ed
    cases n1 with
    | cons n1 l =>
      cases l with
      | cons n2 l =>
        cases l
        exact ⟨_, _, rfl, q _ o1 _ Hb1 H1 k (e.trans e1) w1 (((s.mono e1).set i n1).set j n2)⟩⟩⟩
theorem ws_if {a b : List Stmt} (h : RTG X c γ o fun k o1 => (k = true → WB X a γ o1 N R B C) ∧ (k = false → WB X b γ o1 N R B C)) : WS X (.If c a b pos) γ o N R B C :=
  ⟨PS.imp (ps_if h.p pss_u pss_u) fun D σ H ⟨H0, Hb, F, e, w, s, q⟩ => ⟨Hb, F, w, s, fun k o1 Hb1 H1 k1 e1 w1 => by
    cases k with
    | true => exact ⟨γ, o1, N, R, B, C, k1.1 rfl, H0, Hb1, F, e.trans e1, w1, s.mono e1, q⟩
    | false => exact ⟨γ, o1, N, R, B, C, k1.2 rfl, H0, Hb1, F, e.trans e1, w1, s.mono e1, q⟩⟩⟩
end

/-! ### loops -/
section
variable {X : Cx} {γ γ' : Sto} {o o1 : Own} {e a b c : Expr} {es : List Expr} {st : Stmt} {rest body : List Stmt} {d d1 d2 : D} {pos pos' p : Pos} {N B C : Sto → Own → Prop} {R : D → Own → Prop}
/-- what is walked, told from behind -/
def tWI (K : PySem.W.Frag) (γ : Sto) (o : Own) (P : List D → Own → (Own → Prop) → Prop) : TI := fun σ H S => ∃ Hb F, Wd K Hb F o H ∧ Stt K Hb γ σ ∧ ∀ xs o' Nw J Hb' H', P xs o' Nw → Ex Hb Hb' → Wd K Hb' F o' H' → GoodIt K Hb' J xs Nw → S J H'
structure WI (X : Cx) (tg iter : Expr) (γ : Sto) (o : Own) (P : List D → Own → (Own → Prop) → Prop) : Prop where
  p : PI X tg iter (tWI X.K γ o P)
theorem wi_of {tg : Expr} {xs : List D} {Nw : Own → Prop} {P : List D → Own → (Own → Prop) → Prop} (h : RI X tg e γ o xs o1 Nw) (k : P xs o1 Nw) : WI X tg e γ o P :=
  ⟨PI.imp h.p fun σ H S ⟨Hb, F, w, s, q⟩ => ⟨Hb, F, w, s, fun J Hb' H' e1 w1 g => q xs o1 Nw J Hb' H' k e1 w1 g⟩⟩
theorem wi_list {tg : Expr} {P : List D → Own → (Own → Prop) → Prop} (h : REG X e γ o fun d o1 => ∃ xs, d = .lst xs ∧ P xs o1 anyO) : WI X tg e γ o P :=
  ⟨PI.imp (pi_list h.p) fun σ H S ⟨Hb, F, w, s, q⟩ => ⟨Hb, F, w, s, fun d o1 v Hb1 H1 ⟨xs, ed, k⟩ e1 w1 n1 => by
    subst ed
    cases n1 with
    | lst hs l =>
      have hs : SqL X.K Hb1 _ _ := SqL.of hs
      refine ⟨_, rfl, ⟨_, w1.b.sql hs⟩, q xs o1 _ _ Hb1 H1 k e1 w1 ⟨fun i Hb2 H2 F' o' hi e2 _ w2 => ?_, fun Hb2 H2 F' o' e2 _ w2 => ⟨_, (e2.trans w2.b).sql hs, Nat.le_of_eq l.len⟩⟩⟩
      obtain ⟨v, hv, nv⟩ := l.get (List.getElem?_eq_getElem hi)
      refine ⟨⟨_, v, (e2.trans w2.b).sql hs, hv⟩, fun x H3 y => ?_⟩
      obtain ⟨rfl, y⟩ := y
      have := (y _ ((e2.trans w2.b).sql hs)).symm.trans hv
      cases this
      exact ⟨Hb2, Ex.refl _, w2, nv.mono e2⟩⟩⟩
theorem wi_tup {tg : Expr} {P : List D → Own → (Own → Prop) → Prop} (h : REG X e γ o fun d o1 => ∃ xs, d = .tup xs ∧ P xs o1 anyO) : WI X tg e γ o P :=
  ⟨PI.imp (pi_tup h.p) fun σ H S ⟨Hb, F, w, s, q⟩ => ⟨Hb, F, w, s, fun d o1 v Hb1 H1 ⟨xs, ed, k⟩ e1 w1 n1 => by
    subst ed
    cases n1 with
    | tup hs l =>
      have hs : SqT X.K Hb1 _ _ := SqT.of hs
      refine ⟨_, rfl, ⟨_, w1.b.sqt hs⟩, q xs o1 _ _ Hb1 H1 k e1 w1 ⟨fun i Hb2 H2 F' o' hi e2 _ w2 => ?_, fun Hb2 H2 F' o' e2 _ w2 => ⟨_, (e2.trans w2.b).sqt hs, Nat.le_of_eq l.len⟩⟩⟩
      obtain ⟨v, hv, nv⟩ := l.get (List.getElem?_eq_getElem hi)
      refine ⟨⟨_, v, (e2.trans w2.b).sqt hs, hv⟩, fun x H3 y => ?_⟩
      obtain ⟨rfl, y⟩ := y
      have := (y _ ((e2.trans w2.b).sqt hs)).symm.trans hv
      cases this
      exact ⟨Hb2, Ex.refl _, w2, nv.mono e2⟩⟩⟩
/-- what a for wants of what it walks: I, what holds ahead of turn i -/
def ForP (X : Cx) (tg : Expr) (body : List Stmt) (γ : Sto) (N : Sto → Own → Prop) (R : D → Own → Prop) (xs : List D) (o1 : Own) (Nw : Own → Prop) : Prop :=
  ∃ I : Nat → Sto → Own → Prop, I 0 γ o1 ∧ (∀ i γ' o', I i γ' o' → Nw o') ∧ (∀ i a γ' o', xs[i]? = some a → I i γ' o' → ∃ γ1 ix, RG X tg a γ' γ1 ix ∧ WB X body γ1 o' (I (i + 1)) R N (I (i + 1))) ∧ (∀ γ' o', I xs.length γ' o' → N γ' o')
theorem ws_forE {tg iter : Expr} (hc : X.calm = true) (hp : PassesOwn (model X.prog X.w) X.A X.env X.xe) (hi : WI X tg iter γ o (ForP X tg body γ N R)) (hs : ∀ x, foldedSetIterable iter X.env x = pure x := by intro _; rfl) :
    WS X (.For tg iter body [] pos) γ o N R B C := by
  have pg : PG X tg (fun v σ H Q => ∃ d γ γ' ix, RG X tg d γ γ' ix ∧ tG X.K d γ γ' ix v σ H Q) := ⟨fun pins s1 σ H1 v u Q I r ⟨d, γ, γ', ix, h, q⟩ => h.p.run pins s1 σ H1 v u Q I r q⟩
  refine ⟨PS.imp (ps_for hp hc hi.p pg pss_u hs) fun D σ H ⟨H0, Hb, F, e, w, s, q1, q2, q3, q4⟩ => ⟨Hb, F, w, s, fun xs o1 Nw J Hb1 H1 ⟨I, k0, hNw, hb, hn⟩ e1 w1 good => ?_⟩⟩
  refine ⟨fun i m σ' H' => m = xs.length - i ∧ i ≤ xs.length ∧ ∃ γ' o' Hb', I i γ' o' ∧ Ex Hb1 Hb' ∧ Wd X.K Hb' F o' H' ∧ Stt X.K Hb' γ' σ', ⟨xs.length, by simp, Nat.zero_le _, γ, o1, Hb1, k0, Ex.refl _, w1, s.mono e1⟩, ?_⟩
  rintro i m σ' H' ⟨rfl, hi', γ', o', Hb', k, e', w', s'⟩
  by_cases cl : i = xs.length
  · subst cl
    have st := good.stop Hb' H' _ _ e' (hNw _ _ _ k) w'
    exact .inl ⟨st, q1 γ' o' σ' Hb' H' (hn γ' o' k) (e.trans (e1.trans e')) w' s'⟩
  · have cl : i < xs.length := by omega
    have hla : xs[i]? = some xs[i] := List.getElem?_eq_getElem cl
    obtain ⟨g1, g2⟩ := good.go i Hb' H' _ _ cl e' (hNw _ _ _ k) w'
    generalize xs[i] = a at hla g2
    refine .inr ⟨g1, fun σ2 H2 => ∃ γ2 o2 Hb2, I (i + 1) γ2 o2 ∧ Ex Hb1 Hb2 ∧ Wd X.K Hb2 F o2 H2 ∧ Stt X.K Hb2 γ2 σ2, fun σ2 H2 p => ⟨xs.length - (i + 1), by omega, rfl, cl, p⟩, fun x H2 y => ?_⟩
    obtain ⟨Hb2, e2, w2, n2⟩ := g2 x H2 y
    obtain ⟨γ1, ix, hg, hbd⟩ := hb i a γ' o' hla k
    refine ⟨a, γ', γ1, ix, hg, Hb2, w2.b, s'.mono e2, n2, fun σ3 s3 _ => ⟨γ1, o', _, R, N, _, hbd, Hb1, Hb2, F, e'.trans e2, w2, s3, ?_, ?_, ?_, ?_⟩⟩
    · exact fun γ4 o4 σ4 Hb4 H4 k4 e4 w4 s4 => ⟨γ4, o4, Hb4, k4, e4, w4, s4⟩
    · exact fun d4 o4 v4 Hb4 H4 k4 e4 w4 n4 => q2 d4 o4 v4 Hb4 H4 k4 ((e.trans e1).trans e4) w4 n4
    · exact fun γ4 o4 σ4 Hb4 H4 k4 e4 w4 s4 => q1 γ4 o4 σ4 Hb4 H4 k4 ((e.trans e1).trans e4) w4 s4
    · exact fun γ4 o4 σ4 Hb4 H4 k4 e4 w4 s4 => ⟨γ4, o4, Hb4, k4, e4, w4, s4⟩
theorem wi_mono {tg e : Expr} {P P' : List D → Own → (Own → Prop) → Prop} (h : WI X tg e γ o P) (hi : ∀ xs o' Nw, P xs o' Nw → P' xs o' Nw) : WI X tg e γ o P' :=
  ⟨PI.imp h.p fun σ H S ⟨Hb, F, w, s, q⟩ => ⟨Hb, F, w, s, fun xs o' Nw J Hb' H' z => q xs o' Nw J Hb' H' (hi _ _ _ z)⟩⟩
theorem map_at {α : Type} {L : List α} {g : α → D} {i : Nat} {a : D} (h : (L.map g)[i]? = some a) : ∃ x, L[i]? = some x ∧ a = g x := by
  rw [List.getElem?_map] at h
  cases q : L[i]? with
  | none => rw [q] at h; cases h
  | some x => rw [q] at h; cases h; exact ⟨x, rfl, rfl⟩
/-- a for over what is known: I, what holds ahead of turn i -/
theorem ws_for {α : Type} {tg iter : Expr} (L : List α) (g : α → D) (I : Nat → Sto → Own → Prop) (hc : X.calm = true) (hp : PassesOwn (model X.prog X.w) X.A X.env X.xe)
    (hi : WI X tg iter γ o fun xs o1 Nw => xs = L.map g ∧ I 0 γ o1 ∧ ∀ i γ' o', I i γ' o' → Nw o')
    (hb : ∀ i a γ' o', L[i]? = some a → I i γ' o' → ∃ γ1 ix, RG X tg (g a) γ' γ1 ix ∧ WB X body γ1 o' (I (i + 1)) R N (I (i + 1)))
    (hn : ∀ γ' o', I L.length γ' o' → N γ' o') (hs : ∀ x, foldedSetIterable iter X.env x = pure x := by intro _; rfl) :
    WS X (.For tg iter body [] pos) γ o N R B C := by
  refine ws_forE hc hp (wi_mono hi fun xs o1 Nw ⟨e, k0, hNw⟩ => ?_) hs
  subst e
  refine ⟨I, k0, hNw, fun i a γ' o' h k => ?_, fun γ' o' k => hn γ' o' (by rw [List.length_map] at k; exact k)⟩
  obtain ⟨x, hx, rfl⟩ := map_at h
  exact hb i x γ' o' hx k
/-- a while: I, what holds with the measure m -/
theorem ws_while (I : Nat → Sto → Own → Prop) (m0 : Nat) (hp : PassesOwn (model X.prog X.w) X.A X.env X.xe) (h0 : I m0 γ o)
    (hb : ∀ m γ' o', I m γ' o' → RTG X c γ' o' fun k o1 => (k = true → WB X body γ' o1 (fun γ2 o2 => ∃ m', m' < m ∧ I m' γ2 o2) R N (fun γ2 o2 => ∃ m', m' < m ∧ I m' γ2 o2)) ∧ (k = false → N γ' o1)) :
    WS X (.While c body [] pos) γ o N R B C := by
  refine ⟨PS.imp (ps_while hp pt_u pss_u) fun D σ H ⟨H0, Hb, F, e, w, s, q1, q2, q3, q4⟩ => ?_⟩
  refine ⟨fun m σ' H' => ∃ γ' o' Hb', I m γ' o' ∧ Ex H0 Hb' ∧ Wd X.K Hb' F o' H' ∧ Stt X.K Hb' γ' σ', ⟨m0, γ, o, Hb, h0, e, w, s⟩, ?_⟩
  rintro m σ' H' ⟨γ', o', Hb', k, e', w', s'⟩
  refine ⟨γ', o', _, hb m γ' o' k, Hb', F, w', s', fun kb o2 Hb2 H2 kk e2 w2 => ?_⟩
  cases kb with
  | false => exact q1 γ' o2 σ' Hb2 H2 (kk.2 rfl) (e'.trans e2) w2 (s'.mono e2)
  | true =>
    refine ⟨fun σ3 H3 => ∃ m', m' < m ∧ ∃ γ3 o3 Hb3, I m' γ3 o3 ∧ Ex H0 Hb3 ∧ Wd X.K Hb3 F o3 H3 ∧ Stt X.K Hb3 γ3 σ3, fun σ3 H3 h => h, γ', o2, _, R, N, _, kk.1 rfl, H0, Hb2, F, e'.trans e2, w2, s'.mono e2, ?_, q2, q1, ?_⟩
    · exact fun γ4 o4 σ4 Hb4 H4 ⟨m', hm, k4⟩ e4 w4 s4 => ⟨m', hm, γ4, o4, Hb4, k4, e4, w4, s4⟩
    · exact fun γ4 o4 σ4 Hb4 H4 ⟨m', hm, k4⟩ e4 w4 s4 => ⟨m', hm, γ4, o4, Hb4, k4, e4, w4, s4⟩
end

/-! ### comprehensions -/
section
variable {X : Cx} {γ : Sto} {o : Own}
theorem pts_u {ifs : List Expr} : PTs X ifs (fun σ H Q => ∃ t, PTs X ifs t ∧ t σ H Q) := ⟨fun pins s σ H Q I ⟨t, h, q⟩ => h.run pins s σ H Q I q⟩
structure WTs (X : Cx) (ifs : List Expr) (γ : Sto) (o : Own) (P : Bool → Own → Prop) : Prop where
  p : PTs X ifs (tTG X.K γ o P)
theorem wts_nil {P : Bool → Own → Prop} (k : P true o) : WTs X [] γ o P := ⟨PTs.imp pts_nil fun σ H Q ⟨Hb, F, w, s, q⟩ => q true o Hb H k (Ex.refl _) w⟩
theorem wts_one {c : Expr} {P : Bool → Own → Prop} (h : RTG X c γ o P) : WTs X [c] γ o P := ⟨pts_one h.p⟩
/-- a comprehension, as a value and as what a name is set to -/
structure WLc (X : Cx) (elt : Expr) (gens : List Comprehension) (scope : Scope) (γ : Sto) (o : Own) (P : D → Own → Prop) : Prop where
  e : ∀ pos, PE X (.ListComp elt gens scope pos) (tEG X.K γ o P)
  s : ∀ (i : Nat) (y : Str) (py pos spos : Pos), X.N[i]? = some y → X.env.scope.names.lookup y = some .local → swapsWith (.ListComp elt gens scope pos) (some (.Name y py)) spos.line X.env = pure true →
    PS X (.Assign [.Name y py] (.ListComp elt gens scope pos) spos) (tAsg (tEG X.K γ o P) (gName i))
theorem w_l {elt : Expr} {gens : List Comprehension} {scope : Scope} {P : D → Own → Prop} {pos : Pos} (h : WLc X elt gens scope γ o P) : REG X (.ListComp elt gens scope pos) γ o P := ⟨h.e pos⟩
theorem wl_of {elt : Expr} {gens : List Comprehension} {scope : Scope} {P : D → Own → Prop} {d : D} {o1 : Own} (h : RLc X elt gens scope γ o d o1) (k : P d o1) : WLc X elt gens scope γ o P :=
  ⟨fun pos => PE.imp (h.e pos) fun σ H Q ⟨Hb, F, w, s, q⟩ => ⟨Hb, F, w, s, fun v Hb1 H1 e1 w1 n1 => q d o1 v Hb1 H1 k e1 w1 n1⟩,
   fun i y py pos spos h1 h2 h3 => PS.imp (h.s i y py pos spos h1 h2 h3) fun D σ H ⟨Hb, F, w, s, q⟩ => ⟨Hb, F, w, s, fun v Hb1 H1 e1 w1 n1 => q d o1 v Hb1 H1 k e1 w1 n1⟩⟩
theorem ws_setL (i : Nat) {x : Str} {pos' pos2 pos : Pos} {elt : Expr} {gens : List Comprehension} {scope : Scope} {N B C : Sto → Own → Prop} {R : D → Own → Prop} (hN : X.N.Nodup) (hi : X.N[i]? = some x) (hx : X.env.scope.names.lookup x = some .local)
    (hs : swapsWith (.ListComp elt gens scope pos2) (some (.Name x pos')) pos.line X.env = pure true) (he : WLc X elt gens scope γ o fun d o1 => N (γ.set i (some d)) o1) : WS X (.Assign [.Name x pos'] (.ListComp elt gens scope pos2) pos) γ o N R B C :=
  ⟨PS.imp (he.s i x pos' pos2 pos hi hx hs) fun D σ H ⟨H0, Hb, F, e, w, s, q, _⟩ => ⟨Hb, F, w, s, fun d o1 v Hb1 H1 k e1 w1 n1 => q _ o1 _ Hb1 H1 k (e.trans e1) w1 ((s.mono e1).set i n1)⟩⟩
abbrev Blk (X : Cx) (scope : Scope) (q : Shared × Hp × Addr × List (Str × Addr) × List Addr) : Cx := X.blk q.1 q.2.1 scope (compEnvC scope q.2.2.2.1 q.2.2.1 X.env) q.2.2.2.2
def gQ (X : Cx) (scope : Scope) (tg : Expr) : TG := fun v σ H Q => ∃ d γ γ' ix, (∀ q, RG (Blk X scope q) tg d γ γ' ix) ∧ tG X.K d γ γ' ix v σ H Q
def ttQ (X : Cx) (scope : Scope) (ifs : List Expr) : TT := fun σ H Q => ∃ γ o T, (∀ q, WTs (Blk X scope q) ifs γ o T) ∧ tTG X.K γ o T σ H Q
def teQ (X : Cx) (scope : Scope) (elt : Expr) : TE := fun σ H Q => ∃ γ o P, (∀ q, REG (Blk X scope q) elt γ o P) ∧ tEG X.K γ o P σ H Q
/-- what a comprehension wants of what it walks: I, what holds ahead of turn i of what has been made; T what the tests give -/
def LcP (X : Cx) (elt tg : Expr) (ifs : List Expr) (scope : Scope) (own : List (Str × Nat)) (γ : Sto) (P : D → Own → Prop) (xs : List D) (o1 : Own) (Nw : Own → Prop) : Prop :=
  ∃ I : Nat → List D → Own → Prop, I 0 [] o1 ∧ (∀ i acc o', I i acc o' → Nw o') ∧ xs.length ≤ 100000 ∧ (∀ (i : Nat) (a : D) (acc : List D) (o' : Own), xs[i]? = some a → I i acc o' →
      ∃ γ1 ix T, (∀ j ∈ ix, j ∈ own.map (·.2)) ∧ (∀ q, RG (Blk X scope q) tg a (wipeG γ (own.map (·.2))) γ1 ix) ∧ (∀ q, WTs (Blk X scope q) ifs γ1 o' T) ∧
        (∀ o2, T true o2 → ∀ q, REG (Blk X scope q) elt γ1 o2 fun d o3 => I (i + 1) (acc ++ [d]) o3) ∧ (∀ o2, T false o2 → I (i + 1) acc o2)) ∧ (∀ acc o', I xs.length acc o' → P (.lst acc) o')
/-- [elt for tg in iter if ..] -/
theorem wl_lcE {elt tg iter : Expr} {ifs : List Expr} {scope : Scope} {P : D → Own → Prop} (own : List (Str × Nat))
    (hc : X.calm = true) (hN : X.N.Nodup) (ok : BlkOk X.N X.env.scope scope own) (hi : WI X tg iter γ o (LcP X elt tg ifs scope own γ P)) (hs : ∀ x, foldedSetIterable iter X.env x = pure x := by intro _; rfl) :
    WLc X elt [⟨tg, iter, ifs, 0⟩] scope γ o P := by
  have hg : ∀ (s : Shared) (H : Hp) (C : Addr) (cl : List (Str × Addr)) (fp : List Addr), PG (X.blk s H scope (compEnvC scope cl C X.env) fp) tg (gQ X scope tg) := fun s H C cl fp =>
    ⟨fun pins s1 σ H1 v u Q I r ⟨d, γ, γ', ix, h, q⟩ => (h (s, H, C, cl, fp)).p.run pins s1 σ H1 v u Q I r q⟩
  have ht : ∀ (s : Shared) (H : Hp) (C : Addr) (cl : List (Str × Addr)) (fp : List Addr), PTs (X.blk s H scope (compEnvC scope cl C X.env) fp) ifs (ttQ X scope ifs) := fun s H C cl fp =>
    ⟨fun pins s1 σ H1 Q I ⟨γ, o, T, h, q⟩ => (h (s, H, C, cl, fp)).p.run pins s1 σ H1 Q I q⟩
  have he : ∀ (s : Shared) (H : Hp) (C : Addr) (cl : List (Str × Addr)) (fp : List Addr), PE (X.blk s H scope (compEnvC scope cl C X.env) fp) elt (teQ X scope elt) := fun s H C cl fp =>
    ⟨fun pins s1 σ H1 Q I ⟨γ, o, P, h, q⟩ => (h (s, H, C, cl, fp)).p.run pins s1 σ H1 Q I q⟩
  have R : ∀ σ H Q, tEG X.K γ o P σ H Q → tLc (tWI X.K γ o (LcP X elt tg ifs scope own γ P)) (gQ X scope tg) (ttQ X scope ifs) (teQ X scope elt) (own.map (·.2)) σ H Q := fun σ H Q ⟨Hb, F, w, s, q⟩ => by
    refine ⟨Hb, F, w, s, fun xs o1 Nw J Hb1 H1 ⟨I, k0, hNw, hl, hb, hn⟩ e1 w1 good D₀ hD => ?_⟩
    have hF : F D₀ = none := w1.f.none hD
    refine ⟨fun i m H' => m = xs.length - i ∧ i ≤ xs.length ∧ ∃ (Hb' : Hp) (acc : List V) (accD : List D) (o' : Own), I i accD o' ∧ accD.length ≤ i ∧ Ex Hb1 Hb' ∧ Wd X.K Hb' (upd F D₀ (.lst acc)) o' H' ∧ DenL X.K Hb' acc accD, ⟨xs.length, by simp, Nat.zero_le _, Hb1, [], [], o1, k0, Nat.zero_le _, Ex.refl _, w1.alloc hD, .nil⟩, ?_⟩
    rintro i m H' ⟨rfl, hi', Hb', acc, accD, o', k, hal, e', w', l'⟩
    by_cases c : i < xs.length
    · have hla : xs[i]? = some xs[i] := List.getElem?_eq_getElem c
      obtain ⟨g1, g2⟩ := good.go i Hb' H' _ _ c e' (hNw _ _ _ k) w'
      generalize xs[i] = a at hla g2
      refine .inr ⟨g1, fun H2 => ∃ (Hb2 : Hp) (acc : List V) (accD : List D) (o' : Own), I (i + 1) accD o' ∧ accD.length ≤ i + 1 ∧ Ex Hb1 Hb2 ∧ Wd X.K Hb2 (upd F D₀ (.lst acc)) o' H2 ∧ DenL X.K Hb2 acc accD, fun H2 p => ⟨xs.length - (i + 1), by omega, rfl, c, p⟩, fun x H2 y => ?_⟩
      obtain ⟨Hb2, e2, w2, n2⟩ := g2 x H2 y
      have e12 := e'.trans e2
      obtain ⟨γ1, ix, T, hx, hg1, ht1, he1, hf1⟩ := hb i a accD o' hla k
      refine ⟨a, _, γ1, ix, hg1, Hb2, w2.b, (s.mono (e1.trans e12)).wipe _, n2, fun σ' s' hw => ⟨(hw _ hx).trans wipe_wipe, ?_⟩⟩
      refine ⟨γ1, o', T, ht1, Hb2, _, w2, s', fun b o2 Hb3 H3 tb e3 w3 => ?_⟩
      have l3 := l'.mono (e2.trans e3)
      cases b with
      | true =>
        show teQ X scope elt σ' H3 _
        refine ⟨γ1, o2, _, he1 o2 tb, Hb3, _, w3, s'.mono e3, fun d o3 z Hb4 H4 k4 e4 w4 n4 => ⟨acc, w4.f _ _ upd_same, ?_, Hb4, acc ++ [z], accD ++ [d], o3, k4, by rw [List.length_append, List.length_singleton]; omega, e12.trans (e3.trans e4), w4.grow, (l3.mono e4).append (.cons n4 .nil)⟩⟩
        have z1 := l3.len
        have z4 : 100000 < sizeLine := by decide
        omega
      | false =>
        show ∃ (Hb2 : Hp) (acc : List V) (accD : List D) (o' : Own), _
        exact ⟨Hb3, acc, accD, o2, hf1 o2 tb, by omega, e12.trans e3, w3, l3⟩
    · have ei : i = xs.length := by omega
      subst ei
      have st := good.stop Hb' H' _ _ e' (hNw _ _ _ k) w'
      obtain ⟨Hb2, e2, w2, n2⟩ := w'.done hF l'
      exact .inl ⟨st, q _ o' _ Hb2 H' (hn accD o' k) (e1.trans (e'.trans e2)) w2 n2⟩
  exact ⟨fun pos => PE.imp (pe_lc hc hN hi.p ok hg ht he hs) R, fun i y py pos spos e1 e2 e3 => PS.imp (ps_setLc hc hN e1 e2 e3 hi.p ok hg ht he hs) fun D σ H z => R σ H _ z⟩
/-- .. of what is known to be walked -/
theorem wl_lc {α : Type} {elt tg iter : Expr} {ifs : List Expr} {scope : Scope} {P : D → Own → Prop} (own : List (Str × Nat)) (L : List α) (g : α → D) (I : Nat → List D → Own → Prop)
    (hc : X.calm = true) (hN : X.N.Nodup) (hi : WI X tg iter γ o fun xs o1 Nw => xs = L.map g ∧ I 0 [] o1 ∧ ∀ i acc o', I i acc o' → Nw o') (ok : BlkOk X.N X.env.scope scope own) (hl : L.length ≤ 100000)
    (hb : ∀ (i : Nat) (a : α) (acc : List D) (o' : Own), L[i]? = some a → I i acc o' →
      ∃ γ1 ix T, (∀ j ∈ ix, j ∈ own.map (·.2)) ∧ (∀ q, RG (Blk X scope q) tg (g a) (wipeG γ (own.map (·.2))) γ1 ix) ∧ (∀ q, WTs (Blk X scope q) ifs γ1 o' T) ∧
        (∀ o2, T true o2 → ∀ q, REG (Blk X scope q) elt γ1 o2 fun d o3 => I (i + 1) (acc ++ [d]) o3) ∧ (∀ o2, T false o2 → I (i + 1) acc o2))
    (hn : ∀ acc o', I L.length acc o' → P (.lst acc) o') (hs : ∀ x, foldedSetIterable iter X.env x = pure x := by intro _; rfl) :
    WLc X elt [⟨tg, iter, ifs, 0⟩] scope γ o P := by
  refine wl_lcE own hc hN ok (wi_mono hi fun xs o1 Nw ⟨e, k0, hNw⟩ => ?_) hs
  subst e
  refine ⟨I, k0, hNw, by rw [List.length_map]; exact hl, fun i a acc o' h k => ?_, fun acc o' k => hn acc o' (by rw [List.length_map] at k; exact k)⟩
  obtain ⟨x, hx, rfl⟩ := map_at h
  exact hb i x acc o' hx k
/-- .. without tests -/
theorem wl_map {α : Type} {elt tg iter : Expr} {scope : Scope} {P : D → Own → Prop} (own : List (Str × Nat)) (L : List α) (g : α → D) (I : Nat → List D → Own → Prop)
    (hc : X.calm = true) (hN : X.N.Nodup) (hi : WI X tg iter γ o fun xs o1 Nw => xs = L.map g ∧ I 0 [] o1 ∧ ∀ i acc o', I i acc o' → Nw o') (ok : BlkOk X.N X.env.scope scope own) (hl : L.length ≤ 100000)
    (hb : ∀ (i : Nat) (a : α) (acc : List D) (o' : Own), L[i]? = some a → I i acc o' →
      ∃ γ1 ix, (∀ j ∈ ix, j ∈ own.map (·.2)) ∧ (∀ q, RG (Blk X scope q) tg (g a) (wipeG γ (own.map (·.2))) γ1 ix) ∧ ∀ q, REG (Blk X scope q) elt γ1 o' fun d o3 => I (i + 1) (acc ++ [d]) o3)
    (hn : ∀ acc o', I L.length acc o' → P (.lst acc) o') (hs : ∀ x, foldedSetIterable iter X.env x = pure x := by intro _; rfl) :
    WLc X elt [⟨tg, iter, [], 0⟩] scope γ o P :=
  wl_lc own L g I hc hN hi ok hl (fun i a acc o' h k => by
    obtain ⟨γ1, ix, h1, h2, h3⟩ := hb i a acc o' h k
    exact ⟨γ1, ix, fun b o2 => b = true ∧ o2 = o', h1, h2, fun q => wts_nil ⟨rfl, rfl⟩, fun o2 z q => by rw [z.2]; exact h3 q, fun o2 z => absurd z.1 (by decide)⟩) hn hs
/-- .. that leaves what is one's own: b what is kept, f what is made of it -/
theorem wl_pure {α : Type} {elt tg iter : Expr} {ifs : List Expr} {scope : Scope} {P : D → Own → Prop} (own : List (Str × Nat)) (L : List α) (g : α → D) (b : α → Bool) (f : α → D) {o1 : Own}
    (hc : X.calm = true) (hN : X.N.Nodup) (hi : WI X tg iter γ o fun xs o2 Nw => xs = L.map g ∧ o2 = o1 ∧ Nw o1) (ok : BlkOk X.N X.env.scope scope own) (hl : L.length ≤ 100000)
    (hb : ∀ (a : α), a ∈ L → ∃ γ1 ix, (∀ j ∈ ix, j ∈ own.map (·.2)) ∧ (∀ q, RG (Blk X scope q) tg (g a) (wipeG γ (own.map (·.2))) γ1 ix) ∧ (∀ q, WTs (Blk X scope q) ifs γ1 o1 fun k o2 => k = b a ∧ o2 = o1) ∧
        (b a = true → ∀ q, REG (Blk X scope q) elt γ1 o1 fun d o3 => d = f a ∧ o3 = o1))
    (hn : P (.lst ((L.filter b).map f)) o1) (hs : ∀ x, foldedSetIterable iter X.env x = pure x := by intro _; rfl) :
    WLc X elt [⟨tg, iter, ifs, 0⟩] scope γ o P := by
  refine wl_lc own L g (fun i acc o' => acc = ((L.take i).filter b).map f ∧ o' = o1) hc hN ⟨PI.imp hi.p fun σ H S ⟨Hb, F, w, s, q⟩ => ⟨Hb, F, w, s, fun xs o' Nw J Hb' H' ⟨h1, h2, h3⟩ => q xs o' Nw J Hb' H' ⟨h1, ⟨by rw [List.take_zero]; rfl, h2⟩, fun i acc o'' z => by rw [z.2]; exact h3⟩⟩⟩ ok hl (fun i a acc o' h k => ?_) (fun acc o' k => ?_) hs
  · obtain ⟨rfl, rfl⟩ := k
    obtain ⟨γ1, ix, h1, h2, h3, h4⟩ := hb a (List.mem_of_getElem? h)
    refine ⟨γ1, ix, _, h1, h2, h3, fun o2 z q => ?_, fun o2 z => ?_⟩
    · obtain ⟨z1, rfl⟩ := z
      refine w_mono (h4 z1.symm q) fun d o3 ⟨e1, e2⟩ => ?_
      subst e1 e2
      rw [List.take_succ, h]
      show _ = (((L.take i) ++ [a]).filter b).map f ∧ _
      rw [List.filter_append, List.map_append, List.filter_cons_of_pos z1.symm]
      exact ⟨rfl, rfl⟩
    · obtain ⟨z1, rfl⟩ := z
      rw [List.take_succ, h]
      show _ = (((L.take i) ++ [a]).filter b).map f ∧ _
      rw [List.filter_append, List.filter_cons_of_neg (by rw [← z1]; decide)]
      exact ⟨by rw [List.filter_nil, List.append_nil], rfl⟩
  · obtain ⟨rfl, rfl⟩ := k
    rw [List.take_length]
    exact hn
end

/-! ### dicts by the same rules -/
section
variable {X : Cx} {o : Own}
theorem ix_dict (hu : X.A.units + 1 < cLine) : IxR X (fun x y H Q => ∃ a v, x = .ref a ∧ DGet H a y (some v) ∧ Q v H) := by
  intro value slice pins s σ H x y v u Q I rx ry ⟨a, v', ex, g, q⟩ hs
  subst ex
  obtain rfl : v = Value.ref a := rx
  have hT := dict_typeIs I g
  have hg : wpAny (model X.prog X.w) X.A (getItem (.ref a) u) (EP X pins σ Q) X.xe s := d_getItem hu I g ry fun w' s3 I3 rw' => ⟨v', H, I3, rw', q⟩
  unfold subscriptTail
  refine wpAny_bind ?_
  rw [getitemInPython_of_ne hT.not_modules]
  refine wpAny_bind (wpAny_specialOf hT PySem.F.slot_dict_getitem.lookup ?_)
  have fin : wpAny (model X.prog X.w) X.A (subscripted slice false (.ref a) u) (fun r s₃ => wpAny (model X.prog X.w) X.A (letTemporaryGo value (.ref a) r >>= fun _ => pure r) (EP X pins σ Q) X.xe s₃) X.xe s := by rw [hs]; exact wpAny_operating (wpAny_mono hg (fun r s₃ h₃ => wpAny_bind (wpAny_letTemporaryGo (wpAny_pure h₃))) fun _ _ x => x)
  first | exact wpAny_pure (wpAny_bind fin) | exact wpAny_bind (wpAny_pure (wpAny_bind fin)) | exact wpAny_bind fin
/-- d[k] -/
theorem ix_get {a b d : D} (hu : X.A.units + 1 < cLine) (g : Gets X.K o a b (some d)) : IxD X o a b d := ⟨_, ix_dict hu, fun Hb F H x y Q w hx hy q => by
  obtain ⟨p, ov, rfl, h1, h2⟩ := g.t Hb F H x y w hx hy
  cases h2 with
  | some h2 => exact ⟨p, _, rfl, h1, q _ Hb H (Ex.refl _) w h2⟩⟩
theorem op_din (hu : X.A.units + 1 < cLine) : OpR X (compareOp .In) (fun y x H Q => ∃ a ov, x = .ref a ∧ DGet H a y ov ∧ Q (.bl ov.isSome) H) := fun pins s σ H y x iv u Q I ry rx ⟨a, ov, ex, g, q⟩ => by
  subst ex
  obtain rfl : u = Value.ref a := rx
  exact d_in hu I g ry fun s3 I3 => ⟨.bl ov.isSome, H, I3, rfl, q⟩
theorem op_dnin (hu : X.A.units + 1 < cLine) : OpR X (compareOp .NotIn) (fun y x H Q => ∃ a ov, x = .ref a ∧ DGet H a y ov ∧ Q (.bl (!ov.isSome)) H) := fun pins s σ H y x iv u Q I ry rx ⟨a, ov, ex, g, q⟩ => by
  subst ex
  obtain rfl : u = Value.ref a := rx
  exact d_notIn hu I g ry fun s3 I3 => ⟨.bl (!ov.isSome), H, I3, rfl, q⟩
theorem cmp_din {a b : D} {r : Option D} (hu : X.A.units + 1 < cLine) (g : Gets X.K o b a r) : CmpD X .In o a b (.bl r.isSome) := ⟨_, op_din hu, fun Hb F H x y Q w hx hy q => by
  obtain ⟨p, ov, rfl, h1, h2⟩ := g.t Hb F H y x w hy hx
  exact ⟨p, ov, rfl, h1, q _ Hb H (Ex.refl _) w (by cases h2 <;> exact .bl _)⟩⟩
theorem cmp_dnin {a b : D} {r : Option D} (hu : X.A.units + 1 < cLine) (g : Gets X.K o b a r) : CmpD X .NotIn o a b (.bl (!r.isSome)) := ⟨_, op_dnin hu, fun Hb F H x y Q w hx hy q => by
  obtain ⟨p, ov, rfl, h1, h2⟩ := g.t Hb F H y x w hy hx
  exact ⟨p, ov, rfl, h1, q _ Hb H (Ex.refl _) w (by cases h2 <;> exact .bl _)⟩⟩
end
end J
end

section
set_option Elab.async false
set_option linter.all false
set_option maxRecDepth 100000
/-! W: built-ins by name; stores told anew -/
namespace J
open PySem PySem.Spec PyProof.Rows L2
section
variable {X : Cx} {γ γ' : Sto} {o o1 : Own} {e a b c : Expr} {es : List Expr} {rest : List Stmt} {d d1 d2 : D} {ds : List D} {pos pos' p : Pos} {P : D → Own → Prop} {T : Bool → Own → Prop} {N B C : Sto → Own → Prop} {R : D → Own → Prop}
theorem wb_as (h : γ = γ') (k : WB X rest γ' o N R B C) : WB X rest γ o N R B C := h ▸ k
theorem wb_as1 {a1} (h : γ = [a1]) (k : WB X rest [a1] o N R B C) : WB X rest γ o N R B C := h ▸ k
theorem wb_as2 {a1 a2} (h : γ = [a1, a2]) (k : WB X rest [a1, a2] o N R B C) : WB X rest γ o N R B C := h ▸ k
theorem wb_as3 {a1 a2 a3} (h : γ = [a1, a2, a3]) (k : WB X rest [a1, a2, a3] o N R B C) : WB X rest γ o N R B C := h ▸ k
theorem wb_as4 {a1 a2 a3 a4} (h : γ = [a1, a2, a3, a4]) (k : WB X rest [a1, a2, a3, a4] o N R B C) : WB X rest γ o N R B C := h ▸ k
theorem wb_as5 {a1 a2 a3 a4 a5} (h : γ = [a1, a2, a3, a4, a5]) (k : WB X rest [a1, a2, a3, a4, a5] o N R B C) : WB X rest γ o N R B C := h ▸ k
theorem wb_as6 {a1 a2 a3 a4 a5 a6} (h : γ = [a1, a2, a3, a4, a5, a6]) (k : WB X rest [a1, a2, a3, a4, a5, a6] o N R B C) : WB X rest γ o N R B C := h ▸ k
theorem wb_as7 {a1 a2 a3 a4 a5 a6 a7} (h : γ = [a1, a2, a3, a4, a5, a6, a7]) (k : WB X rest [a1, a2, a3, a4, a5, a6, a7] o N R B C) : WB X rest γ o N R B C := h ▸ k
theorem wb_as8 {a1 a2 a3 a4 a5 a6 a7 a8} (h : γ = [a1, a2, a3, a4, a5, a6, a7, a8]) (k : WB X rest [a1, a2, a3, a4, a5, a6, a7, a8] o N R B C) : WB X rest γ o N R B C := h ▸ k
theorem wb_as9 {a1 a2 a3 a4 a5 a6 a7 a8 a9} (h : γ = [a1, a2, a3, a4, a5, a6, a7, a8, a9]) (k : WB X rest [a1, a2, a3, a4, a5, a6, a7, a8, a9] o N R B C) : WB X rest γ o N R B C := h ▸ k
theorem wb_as10 {a1 a2 a3 a4 a5 a6 a7 a8 a9 a10} (h : γ = [a1, a2, a3, a4, a5, a6, a7, a8, a9, a10]) (k : WB X rest [a1, a2, a3, a4, a5, a6, a7, a8, a9, a10] o N R B C) : WB X rest γ o N R B C := h ▸ k
theorem wb_as11 {a1 a2 a3 a4 a5 a6 a7 a8 a9 a10 a11} (h : γ = [a1, a2, a3, a4, a5, a6, a7, a8, a9, a10, a11]) (k : WB X rest [a1, a2, a3, a4, a5, a6, a7, a8, a9, a10, a11] o N R B C) : WB X rest γ o N R B C := h ▸ k
theorem wb_as12 {a1 a2 a3 a4 a5 a6 a7 a8 a9 a10 a11 a12} (h : γ = [a1, a2, a3, a4, a5, a6, a7, a8, a9, a10, a11, a12]) (k : WB X rest [a1, a2, a3, a4, a5, a6, a7, a8, a9, a10, a11, a12] o N R B C) : WB X rest γ o N R B C := h ▸ k
theorem wb_as13 {a1 a2 a3 a4 a5 a6 a7 a8 a9 a10 a11 a12 a13} (h : γ = [a1, a2, a3, a4, a5, a6, a7, a8, a9, a10, a11, a12, a13]) (k : WB X rest [a1, a2, a3, a4, a5, a6, a7, a8, a9, a10, a11, a12, a13] o N R B C) : WB X rest γ o N R B C := h ▸ k
theorem wb_as14 {a1 a2 a3 a4 a5 a6 a7 a8 a9 a10 a11 a12 a13 a14} (h : γ = [a1, a2, a3, a4, a5, a6, a7, a8, a9, a10, a11, a12, a13, a14]) (k : WB X rest [a1, a2, a3, a4, a5, a6, a7, a8, a9, a10, a11, a12, a13, a14] o N R B C) : WB X rest γ o N R B C := h ▸ k
theorem wb_as15 {a1 a2 a3 a4 a5 a6 a7 a8 a9 a10 a11 a12 a13 a14 a15} (h : γ = [a1, a2, a3, a4, a5, a6, a7, a8, a9, a10, a11, a12, a13, a14, a15]) (k : WB X rest [a1, a2, a3, a4, a5, a6, a7, a8, a9, a10, a11, a12, a13, a14, a15] o N R B C) : WB X rest γ o N R B C := h ▸ k
theorem wb_as16 {a1 a2 a3 a4 a5 a6 a7 a8 a9 a10 a11 a12 a13 a14 a15 a16} (h : γ = [a1, a2, a3, a4, a5, a6, a7, a8, a9, a10, a11, a12, a13, a14, a15, a16]) (k : WB X rest [a1, a2, a3, a4, a5, a6, a7, a8, a9, a10, a11, a12, a13, a14, a15, a16] o N R B C) : WB X rest γ o N R B C := h ▸ k
theorem wb_as17 {a1 a2 a3 a4 a5 a6 a7 a8 a9 a10 a11 a12 a13 a14 a15 a16 a17} (h : γ = [a1, a2, a3, a4, a5, a6, a7, a8, a9, a10, a11, a12, a13, a14, a15, a16, a17]) (k : WB X rest [a1, a2, a3, a4, a5, a6, a7, a8, a9, a10, a11, a12, a13, a14, a15, a16, a17] o N R B C) : WB X rest γ o N R B C := h ▸ k
theorem wb_as18 {a1 a2 a3 a4 a5 a6 a7 a8 a9 a10 a11 a12 a13 a14 a15 a16 a17 a18} (h : γ = [a1, a2, a3, a4, a5, a6, a7, a8, a9, a10, a11, a12, a13, a14, a15, a16, a17, a18]) (k : WB X rest [a1, a2, a3, a4, a5, a6, a7, a8, a9, a10, a11, a12, a13, a14, a15, a16, a17, a18] o N R B C) : WB X rest γ o N R B C := h ▸ k
theorem wb_as19 {a1 a2 a3 a4 a5 a6 a7 a8 a9 a10 a11 a12 a13 a14 a15 a16 a17 a18 a19} (h : γ = [a1, a2, a3, a4, a5, a6, a7, a8, a9, a10, a11, a12, a13, a14, a15, a16, a17, a18, a19]) (k : WB X rest [a1, a2, a3, a4, a5, a6, a7, a8, a9, a10, a11, a12, a13, a14, a15, a16, a17, a18, a19] o N R B C) : WB X rest γ o N R B C := h ▸ k
theorem wb_as20 {a1 a2 a3 a4 a5 a6 a7 a8 a9 a10 a11 a12 a13 a14 a15 a16 a17 a18 a19 a20} (h : γ = [a1, a2, a3, a4, a5, a6, a7, a8, a9, a10, a11, a12, a13, a14, a15, a16, a17, a18, a19, a20]) (k : WB X rest [a1, a2, a3, a4, a5, a6, a7, a8, a9, a10, a11, a12, a13, a14, a15, a16, a17, a18, a19, a20] o N R B C) : WB X rest γ o N R B C := h ▸ k
theorem wb_as21 {a1 a2 a3 a4 a5 a6 a7 a8 a9 a10 a11 a12 a13 a14 a15 a16 a17 a18 a19 a20 a21} (h : γ = [a1, a2, a3, a4, a5, a6, a7, a8, a9, a10, a11, a12, a13, a14, a15, a16, a17, a18, a19, a20, a21]) (k : WB X rest [a1, a2, a3, a4, a5, a6, a7, a8, a9, a10, a11, a12, a13, a14, a15, a16, a17, a18, a19, a20, a21] o N R B C) : WB X rest γ o N R B C := h ▸ k
theorem wb_as22 {a1 a2 a3 a4 a5 a6 a7 a8 a9 a10 a11 a12 a13 a14 a15 a16 a17 a18 a19 a20 a21 a22} (h : γ = [a1, a2, a3, a4, a5, a6, a7, a8, a9, a10, a11, a12, a13, a14, a15, a16, a17, a18, a19, a20, a21, a22]) (k : WB X rest [a1, a2, a3, a4, a5, a6, a7, a8, a9, a10, a11, a12, a13, a14, a15, a16, a17, a18, a19, a20, a21, a22] o N R B C) : WB X rest γ o N R B C := h ▸ k
theorem wb_as23 {a1 a2 a3 a4 a5 a6 a7 a8 a9 a10 a11 a12 a13 a14 a15 a16 a17 a18 a19 a20 a21 a22 a23} (h : γ = [a1, a2, a3, a4, a5, a6, a7, a8, a9, a10, a11, a12, a13, a14, a15, a16, a17, a18, a19, a20, a21, a22, a23]) (k : WB X rest [a1, a2, a3, a4, a5, a6, a7, a8, a9, a10, a11, a12, a13, a14, a15, a16, a17, a18, a19, a20, a21, a22, a23] o N R B C) : WB X rest γ o N R B C := h ▸ k
theorem wb_as24 {a1 a2 a3 a4 a5 a6 a7 a8 a9 a10 a11 a12 a13 a14 a15 a16 a17 a18 a19 a20 a21 a22 a23 a24} (h : γ = [a1, a2, a3, a4, a5, a6, a7, a8, a9, a10, a11, a12, a13, a14, a15, a16, a17, a18, a19, a20, a21, a22, a23, a24]) (k : WB X rest [a1, a2, a3, a4, a5, a6, a7, a8, a9, a10, a11, a12, a13, a14, a15, a16, a17, a18, a19, a20, a21, a22, a23, a24] o N R B C) : WB X rest γ o N R B C := h ▸ k
theorem wb_as25 {a1 a2 a3 a4 a5 a6 a7 a8 a9 a10 a11 a12 a13 a14 a15 a16 a17 a18 a19 a20 a21 a22 a23 a24 a25} (h : γ = [a1, a2, a3, a4, a5, a6, a7, a8, a9, a10, a11, a12, a13, a14, a15, a16, a17, a18, a19, a20, a21, a22, a23, a24, a25]) (k : WB X rest [a1, a2, a3, a4, a5, a6, a7, a8, a9, a10, a11, a12, a13, a14, a15, a16, a17, a18, a19, a20, a21, a22, a23, a24, a25] o N R B C) : WB X rest γ o N R B C := h ▸ k
theorem wb_as26 {a1 a2 a3 a4 a5 a6 a7 a8 a9 a10 a11 a12 a13 a14 a15 a16 a17 a18 a19 a20 a21 a22 a23 a24 a25 a26} (h : γ = [a1, a2, a3, a4, a5, a6, a7, a8, a9, a10, a11, a12, a13, a14, a15, a16, a17, a18, a19, a20, a21, a22, a23, a24, a25, a26]) (k : WB X rest [a1, a2, a3, a4, a5, a6, a7, a8, a9, a10, a11, a12, a13, a14, a15, a16, a17, a18, a19, a20, a21, a22, a23, a24, a25, a26] o N R B C) : WB X rest γ o N R B C := h ▸ k
theorem wb_as27 {a1 a2 a3 a4 a5 a6 a7 a8 a9 a10 a11 a12 a13 a14 a15 a16 a17 a18 a19 a20 a21 a22 a23 a24 a25 a26 a27} (h : γ = [a1, a2, a3, a4, a5, a6, a7, a8, a9, a10, a11, a12, a13, a14, a15, a16, a17, a18, a19, a20, a21, a22, a23, a24, a25, a26, a27]) (k : WB X rest [a1, a2, a3, a4, a5, a6, a7, a8, a9, a10, a11, a12, a13, a14, a15, a16, a17, a18, a19, a20, a21, a22, a23, a24, a25, a26, a27] o N R B C) : WB X rest γ o N R B C := h ▸ k
theorem wb_as28 {a1 a2 a3 a4 a5 a6 a7 a8 a9 a10 a11 a12 a13 a14 a15 a16 a17 a18 a19 a20 a21 a22 a23 a24 a25 a26 a27 a28} (h : γ = [a1, a2, a3, a4, a5, a6, a7, a8, a9, a10, a11, a12, a13, a14, a15, a16, a17, a18, a19, a20, a21, a22, a23, a24, a25, a26, a27, a28]) (k : WB X rest [a1, a2, a3, a4, a5, a6, a7, a8, a9, a10, a11, a12, a13, a14, a15, a16, a17, a18, a19, a20, a21, a22, a23, a24, a25, a26, a27, a28] o N R B C) : WB X rest γ o N R B C := h ▸ k
theorem w_val (i : Nat) {x : Str} (hN : X.N[i]? = some x) (hg : γ[i]? = some (some d)) (hv : Vis X.env.scope x) (k : P d o) (hd : (x == ("__debug__" : Str)) = false := by decide) (hcd : (x == ("__classdict__" : Str)) = false := by decide) : REG X (.Name x pos) γ o P := w_of (re_var i hg hN hv hd hcd) k
end
/-- what is one's own may be forgotten at a return -/
theorem wb_dropR {X : Cx} {γ : Sto} {o : Own} {rest : List Stmt} {N B C : Sto → Own → Prop} {R : D → Own → Prop} (h : WB X rest γ o N (fun d o2 => ∃ o3, o3.Sublist o2 ∧ R d o3) B C) : WB X rest γ o N R B C :=
  ⟨PSs.imp h.p fun D σ H ⟨H0, Hb, F, e, w, s, q1, q2, q3, q4⟩ => ⟨H0, Hb, F, e, w, s, q1, fun d o' v Hb' H' ⟨o3, hs, k⟩ e1 w1 n1 => q2 d o3 v Hb' H' k e1 (w1.drop hs) n1, q3, q4⟩⟩
/-- .. and where one goes on -/
theorem ws_dropN {X : Cx} {γ : Sto} {o : Own} {st : Stmt} {N B C : Sto → Own → Prop} {R : D → Own → Prop} (h : WS X st γ o (fun γ' o2 => ∃ o3, o3.Sublist o2 ∧ N γ' o3) R B C) : WS X st γ o N R B C :=
  ⟨PS.imp h.p fun D σ H ⟨H0, Hb, F, e, w, s, q1, q2, q3, q4⟩ => ⟨H0, Hb, F, e, w, s, fun γ' o' σ' Hb' H' ⟨o3, hs, k⟩ e1 w1 s1 => q1 γ' o3 σ' Hb' H' k e1 (w1.drop hs) s1, q2, q3, q4⟩⟩
/-- a cut behind a statement -/
theorem wb_cut {X : Cx} {γ : Sto} {o : Own} {st : Stmt} {rest : List Stmt} {N B C : Sto → Own → Prop} {R : D → Own → Prop} (N' : Sto → Own → Prop) (h : WS X st γ o N' R B C) (h2 : ∀ γ' o', N' γ' o' → WB X rest γ' o' N R B C) : WB X (st :: rest) γ o N R B C :=
  wb_cons (ws_mono h h2 (fun _ _ h => h) (fun _ _ h => h) (fun _ _ h => h))
theorem if_dec {p A B : Prop} [Decidable p] (h1 : p → A) (h2 : ¬p → B) : (decide p = true → A) ∧ (decide p = false → B) := ⟨fun h => h1 (of_decide_eq_true h), fun h => h2 (of_decide_eq_false h)⟩
theorem if_ndec {p A B : Prop} [inst : Decidable p] (h1 : ¬p → A) (h2 : p → B) : ((!decide p) = true → A) ∧ ((!decide p) = false → B) := by
  cases inst with
  | isTrue c => exact ⟨fun h => (nomatch (show false = true from h)), fun _ => h2 c⟩
  | isFalse c => exact ⟨fun _ => h1 c, fun h => nomatch (show true = false from h)⟩
theorem if_T {A B : Prop} (h1 : A) : (true = true → A) ∧ (true = false → B) := ⟨fun _ => h1, fun h => nomatch h⟩
theorem if_F {A B : Prop} (h1 : B) : (false = true → A) ∧ (false = false → B) := ⟨fun h => (nomatch h), fun _ => h1⟩
theorem if_NT {A B : Prop} (h1 : B) : ((!true) = true → A) ∧ ((!true) = false → B) := if_F h1
theorem if_NF {A B : Prop} (h1 : A) : ((!false) = true → A) ∧ ((!false) = false → B) := if_T h1
theorem if_bl {b : Bool} {A B : Prop} (h1 : b = true → A) (h2 : b = false → B) : (b = true → A) ∧ (b = false → B) := ⟨h1, h2⟩
section
variable {X : Cx} {o : Own} {i : Int} {P : D → Prop} {a b c d e f g : D}
theorem ix1 (h0 : 0 ≤ i) (h1 : i < 1) (k1 : P a) : ∃ d, IxD X o (.tup [a]) (.int i) d ∧ P d := by
  obtain rfl : i = 0 := by omega
  exact ⟨_, ix_tupD rfl, k1⟩
theorem ix2 (h0 : 0 ≤ i) (h1 : i < 2) (k1 : i = 0 → P a) (k2 : i = 1 → P b) : ∃ d, IxD X o (.tup [a, b]) (.int i) d ∧ P d := by
  rcases (show i = 0 ∨ i = 1 by omega) with rfl | rfl
  · exact ⟨_, ix_tupD rfl, k1 rfl⟩
  · exact ⟨_, ix_tupD rfl, k2 rfl⟩
theorem ix3 (h0 : 0 ≤ i) (h1 : i < 3) (k1 : i = 0 → P a) (k2 : i = 1 → P b) (k3 : i = 2 → P c) : ∃ d, IxD X o (.tup [a, b, c]) (.int i) d ∧ P d := by
  rcases (show i = 0 ∨ i = 1 ∨ i = 2 by omega) with rfl | rfl | rfl
  · exact ⟨_, ix_tupD rfl, k1 rfl⟩
  · exact ⟨_, ix_tupD rfl, k2 rfl⟩
  · exact ⟨_, ix_tupD rfl, k3 rfl⟩
end
section
variable {X : Cx} {γ : Sto} {o : Own} {e : Expr} {es : List Expr} {pos p : Pos} {P : D → Own → Prop}
theorem w_tuple (B : Bi X.mg) (ha : RAG X (e :: es) γ o fun ds o1 => ∃ d, TyD X "tuple" o1 ds d ∧ P d o1) (hg : Gl X "tuple" := by rfl) (he : starEach (e :: es) X.env = (false, eval e X.env) :: starEach es X.env := by rfl) (hpl : (backTo pos (starEach es X.env)).any (·.1) = false := by rfl) :
    REG X (.Call (.Name "tuple" p) (e :: es) [] pos) γ o P := w_tyc B.tuple ha (by decide +kernel) hg (by decide) (by decide) he hpl
theorem w_list (B : Bi X.mg) (ha : RAG X (e :: es) γ o fun ds o1 => ∃ d, TyD X "list" o1 ds d ∧ P d o1) (hg : Gl X "list" := by rfl) (he : starEach (e :: es) X.env = (false, eval e X.env) :: starEach es X.env := by rfl) (hpl : (backTo pos (starEach es X.env)).any (·.1) = false := by rfl) :
    REG X (.Call (.Name "list" p) (e :: es) [] pos) γ o P := w_tyc B.list ha (by decide +kernel) hg (by decide) (by decide) he hpl
theorem w_dict (B : Bi X.mg) (ha : RAG X (e :: es) γ o fun ds o1 => ∃ d, TyD X "dict" o1 ds d ∧ P d o1) (hg : Gl X "dict" := by rfl) (he : starEach (e :: es) X.env = (false, eval e X.env) :: starEach es X.env := by rfl) (hpl : (backTo pos (starEach es X.env)).any (·.1) = false := by rfl) :
    REG X (.Call (.Name "dict" p) (e :: es) [] pos) γ o P := w_tyc B.dict ha (by decide +kernel) hg (by decide) (by decide) he hpl
theorem w_setB (B : Bi X.mg) (ha : RAG X (e :: es) γ o fun ds o1 => ∃ d, TyD X "set" o1 ds d ∧ P d o1) (hg : Gl X "set" := by rfl) (he : starEach (e :: es) X.env = (false, eval e X.env) :: starEach es X.env := by rfl) (hpl : (backTo pos (starEach es X.env)).any (·.1) = false := by rfl) :
    REG X (.Call (.Name "set" p) (e :: es) [] pos) γ o P := w_tyc B.set ha (by decide +kernel) hg (by decide) (by decide) he hpl
theorem w_intB (B : Bi X.mg) (ha : RAG X (e :: es) γ o fun ds o1 => ∃ d, TyD X "int" o1 ds d ∧ P d o1) (hg : Gl X "int" := by rfl) (he : starEach (e :: es) X.env = (false, eval e X.env) :: starEach es X.env := by rfl) (hpl : (backTo pos (starEach es X.env)).any (·.1) = false := by rfl) :
    REG X (.Call (.Name "int" p) (e :: es) [] pos) γ o P := w_tyc B.int ha (by decide +kernel) hg (by decide) (by decide) he hpl
theorem w_len (B : Bi X.mg) (ha : RAG X (e :: es) γ o fun ds o1 => ∃ d, BltD X "len" o1 ds d ∧ P d o1) (hg : Gl X "len" := by rfl) (he : starEach (e :: es) X.env = (false, eval e X.env) :: starEach es X.env := by rfl) (hpl : (backTo pos (starEach es X.env)).any (·.1) = false := by rfl) :
    REG X (.Call (.Name "len" p) (e :: es) [] pos) γ o P := w_blt B.len ha (by decide +kernel) hg (by decide) (by decide) he hpl
theorem w_sorted (B : Bi X.mg) (ha : RAG X (e :: es) γ o fun ds o1 => ∃ d, BltD X "sorted" o1 ds d ∧ P d o1) (hg : Gl X "sorted" := by rfl) (he : starEach (e :: es) X.env = (false, eval e X.env) :: starEach es X.env := by rfl) (hpl : (backTo pos (starEach es X.env)).any (·.1) = false := by rfl) :
    REG X (.Call (.Name "sorted" p) (e :: es) [] pos) γ o P := w_blt B.sorted ha (by decide +kernel) hg (by decide) (by decide) he hpl
theorem w_all (B : Bi X.mg) (ha : RAG X (e :: es) γ o fun ds o1 => ∃ d, BltD X "all" o1 ds d ∧ P d o1) (hg : Gl X "all" := by rfl) (he : starEach (e :: es) X.env = (false, eval e X.env) :: starEach es X.env := by rfl) (hpl : (backTo pos (starEach es X.env)).any (·.1) = false := by rfl) :
    REG X (.Call (.Name "all" p) (e :: es) [] pos) γ o P := w_blt B.all ha (by decide +kernel) hg (by decide) (by decide) he hpl
theorem w_any (B : Bi X.mg) (ha : RAG X (e :: es) γ o fun ds o1 => ∃ d, BltD X "any" o1 ds d ∧ P d o1) (hg : Gl X "any" := by rfl) (he : starEach (e :: es) X.env = (false, eval e X.env) :: starEach es X.env := by rfl) (hpl : (backTo pos (starEach es X.env)).any (·.1) = false := by rfl) :
    REG X (.Call (.Name "any" p) (e :: es) [] pos) γ o P := w_blt B.any ha (by decide +kernel) hg (by decide) (by decide) he hpl
theorem w_min (B : Bi X.mg) (ha : RAG X (e :: es) γ o fun ds o1 => ∃ d, BltD X "min" o1 ds d ∧ P d o1) (hg : Gl X "min" := by rfl) (he : starEach (e :: es) X.env = (false, eval e X.env) :: starEach es X.env := by rfl) (hpl : (backTo pos (starEach es X.env)).any (·.1) = false := by rfl) :
    REG X (.Call (.Name "min" p) (e :: es) [] pos) γ o P := w_blt B.min ha (by decide +kernel) hg (by decide) (by decide) he hpl
theorem w_max (B : Bi X.mg) (ha : RAG X (e :: es) γ o fun ds o1 => ∃ d, BltD X "max" o1 ds d ∧ P d o1) (hg : Gl X "max" := by rfl) (he : starEach (e :: es) X.env = (false, eval e X.env) :: starEach es X.env := by rfl) (hpl : (backTo pos (starEach es X.env)).any (·.1) = false := by rfl) :
    REG X (.Call (.Name "max" p) (e :: es) [] pos) γ o P := w_blt B.max ha (by decide +kernel) hg (by decide) (by decide) he hpl
theorem w_abs (B : Bi X.mg) (ha : RAG X (e :: es) γ o fun ds o1 => ∃ d, BltD X "abs" o1 ds d ∧ P d o1) (hg : Gl X "abs" := by rfl) (he : starEach (e :: es) X.env = (false, eval e X.env) :: starEach es X.env := by rfl) (hpl : (backTo pos (starEach es X.env)).any (·.1) = false := by rfl) :
    REG X (.Call (.Name "abs" p) (e :: es) [] pos) γ o P := w_blt B.abs ha (by decide +kernel) hg (by decide) (by decide) he hpl
theorem w_isi (B : Bi X.mg) (ha : RAG X (e :: es) γ o fun ds o1 => ∃ d, BltD X "isinstance" o1 ds d ∧ P d o1) (hg : Gl X "isinstance" := by rfl) (he : starEach (e :: es) X.env = (false, eval e X.env) :: starEach es X.env := by rfl) (hpl : (backTo pos (starEach es X.env)).any (·.1) = false := by rfl) :
    REG X (.Call (.Name "isinstance" p) (e :: es) [] pos) γ o P := w_blt B.isi ha (by decide +kernel) hg (by decide) (by decide) he hpl
theorem w_sum (B : Bi X.mg) (ha : RAG X (e :: es) γ o fun ds o1 => ∃ d, BltD X "sum" o1 ds d ∧ P d o1) (hg : Gl X "sum" := by rfl) (he : starEach (e :: es) X.env = (false, eval e X.env) :: starEach es X.env := by rfl) (hpl : (backTo pos (starEach es X.env)).any (·.1) = false := by rfl) :
    REG X (.Call (.Name "sum" p) (e :: es) [] pos) γ o P := w_blt B.sum ha (by decide +kernel) hg (by decide) (by decide) he hpl
end
/-- a comprehension without tests -/
theorem lcp_map {X : Cx} {elt tg : Expr} {scope : Scope} {own : List (Str × Nat)} {γ : Sto} {P : D → Own → Prop} {xs : List D} {o1 : Own} (I : Nat → List D → Own → Prop) (k0 : I 0 [] o1) (hl : xs.length ≤ 100000)
    (hb : ∀ (i : Nat) (a : D) (acc : List D) (o' : Own), xs[i]? = some a → I i acc o' → ∃ γ1 ix, (∀ j ∈ ix, j ∈ own.map (·.2)) ∧ (∀ q, RG (Blk X scope q) tg a (wipeG γ (own.map (·.2))) γ1 ix) ∧ ∀ q, REG (Blk X scope q) elt γ1 o' fun d o3 => I (i + 1) (acc ++ [d]) o3)
    (hn : ∀ acc o', I xs.length acc o' → P (.lst acc) o') : LcP X elt tg [] scope own γ P xs o1 anyO :=
  ⟨I, k0, fun _ _ _ _ => trivial, hl, fun i a acc o' h k => by
    obtain ⟨γ1, ix, h1, h2, h3⟩ := hb i a acc o' h k
    exact ⟨γ1, ix, fun b o2 => b = true ∧ o2 = o', h1, h2, fun q => wts_nil ⟨rfl, rfl⟩, fun o2 z q => by rw [z.2]; exact h3 q, fun o2 z => absurd z.1 (by decide)⟩, hn⟩
/-- .. that leaves what is one's own -/
theorem lcp_pure {α : Type} {X : Cx} {elt tg : Expr} {ifs : List Expr} {scope : Scope} {own : List (Str × Nat)} {γ : Sto} {P : D → Own → Prop} {Nw : Own → Prop} {o1 : Own} {L : List α} {g : α → D} (b : α → Bool) (f : α → D) (hNw : Nw o1) (hl : L.length ≤ 100000)
    (hb : ∀ (a : α), a ∈ L → ∃ γ1 ix, (∀ j ∈ ix, j ∈ own.map (·.2)) ∧ (∀ q, RG (Blk X scope q) tg (g a) (wipeG γ (own.map (·.2))) γ1 ix) ∧ (∀ q, WTs (Blk X scope q) ifs γ1 o1 fun k o2 => k = b a ∧ o2 = o1) ∧
        (b a = true → ∀ q, REG (Blk X scope q) elt γ1 o1 fun d o3 => d = f a ∧ o3 = o1))
    (hn : P (.lst ((L.filter b).map f)) o1) : LcP X elt tg ifs scope own γ P (L.map g) o1 Nw := by
  refine ⟨fun i acc o' => acc = ((L.take i).filter b).map f ∧ o' = o1, ⟨by rw [List.take_zero]; rfl, rfl⟩, fun _ _ _ z => by rw [z.2]; exact hNw, by rw [List.length_map]; exact hl, fun i a acc o' h k => ?_, fun acc o' k => ?_⟩
  · obtain ⟨rfl, rfl⟩ := k
    obtain ⟨a, hx, rfl⟩ := map_at h
    obtain ⟨γ1, ix, h1, h2, h3, h4⟩ := hb a (List.mem_of_getElem? hx)
    refine ⟨γ1, ix, _, h1, h2, h3, fun o2 z q => ?_, fun o2 z => ?_⟩
    · obtain ⟨z1, rfl⟩ := z
      refine w_mono (h4 z1.symm q) fun d o3 ⟨e1, e2⟩ => ?_
      subst e1 e2
      rw [List.take_succ, hx]
      show _ = (((L.take i) ++ [a]).filter b).map f ∧ _
      rw [List.filter_append, List.map_append, List.filter_cons_of_pos z1.symm]
      exact ⟨rfl, rfl⟩
    · obtain ⟨z1, rfl⟩ := z
      rw [List.take_succ, hx]
      show _ = (((L.take i) ++ [a]).filter b).map f ∧ _
      rw [List.filter_append, List.filter_cons_of_neg (by rw [← z1]; decide)]
      exact ⟨by rw [List.filter_nil, List.append_nil], rfl⟩
  · obtain ⟨rfl, rfl⟩ := k
    rw [List.length_map, List.take_length]
    exact hn
/-! ### {k: v, ..}, told from behind -/
def RPsG (X : Cx) (γ : Sto) : List (Option Expr) → List Expr → Own → (List (Key × D) → Own → Prop) → Prop
  | [], [], o, P => P [] o
  | some k :: ks, v :: vs, o, P => REG X k γ o fun d1 o1 => ∃ kk, d1 = keyD kk ∧ REG X v γ o1 fun d o2 => RPsG X γ ks vs o2 fun ps o3 => P ((kk, d) :: ps) o3
  | _, _, _, _ => False
theorem keyD_val {K : PySem.W.Frag} {H : Hp} {x : V} {kk : Key} (h : Den K H x (keyD kk)) : x = kV kk := by
  cases kk with
  | inl i => cases h; rfl
  | inr i => cases h; rfl
theorem RPsG.go {X : Cx} {γ : Sto} : ∀ (keys : List (Option Expr)) (values : List Expr), keys.all (·.isSome) = true → keys.length = values.length → ∃ trs, (∀ pos, PPs X pos keys values trs) ∧
    ∀ (o : Own) (P : List (Key × D) → Own → Prop) (σ : L2.St) (Hb F H : Hp) (Q : List (V × V) → Hp → Prop), RPsG X γ keys values o P → Wd X.K Hb F o H → Stt X.K Hb γ σ →
      (∀ ps o' (vs : List (Key × V)) (Hb' H' : Hp), P ps o' → ps.length = keys.length → Ex Hb Hb' → Wd X.K Hb' F o' H' → DenK X.K Hb' vs ps → Q (vs.map fun kv => (kV kv.1, kv.2)) H') → tPairs trs σ H Q
  | [], [], _, _ => ⟨[], fun _ => pps_nil, fun o P σ Hb F H Q h w s q => q [] o [] Hb H h rfl (Ex.refl _) w .nil⟩
  | some k :: ks, v :: vs, hk, hl => by
    obtain ⟨trs, h1, h2⟩ := RPsG.go (X := X) (γ := γ) ks vs (by simpa using hk) (Nat.succ.inj hl)
    refine ⟨_, fun pos => pps_cons pe_u pe_u (h1 pos), fun o P σ Hb F H Q h w s q => ?_⟩
    have h : REG X k γ o fun d1 o1 => ∃ kk, d1 = keyD kk ∧ REG X v γ o1 fun d o2 => RPsG X γ ks vs o2 fun ps o3 => P ((kk, d) :: ps) o3 := h
    refine ⟨γ, o, _, h, Hb, F, w, s, fun d1 o1 x Hb1 H1 k1 e1 w1 n1 => ?_⟩
    obtain ⟨kk, rfl, hv⟩ := k1
    refine ⟨γ, o1, _, hv, Hb1, F, w1, s.mono e1, fun d o2 y Hb2 H2 k2 e2 w2 n2 => ?_⟩
    obtain rfl := keyD_val n1
    exact h2 o2 _ σ Hb2 F H2 _ k2 w2 (s.mono (e1.trans e2)) fun ps o' us Hb3 H3 k3 l3 e3 w3 n3 => q ((kk, d) :: ps) o' ((kk, y) :: us) Hb3 H3 k3 (by rw [List.length_cons, List.length_cons, l3]) (e1.trans (e2.trans e3)) w3 (.cons (n2.mono e3) n3)
  | [], _ :: _, _, hl => by cases hl
  | none :: _, _, hk, _ => by simp at hk
  | some _ :: _, [], _, hl => by cases hl
theorem w_disp {X : Cx} {γ : Sto} {o : Own} {keys : List (Option Expr)} {values : List Expr} {pos : Pos} {P : D → Own → Prop} (h : ∀ p, Fresh o p → RPsG X γ keys values ((p, .dK []) :: o) fun ps o3 => ∃ o', o3 = (p, .dK []) :: o' ∧ Fresh o' p ∧ P (.adr p) ((p, .dK (mergeD [] ps)) :: o'))
    (hk : keys.all (·.isSome) = true := by rfl) (hl : keys.length = values.length := by rfl) (h0 : keys ≠ [] := by exact fun h => nomatch h) (h15 : keys.length ≤ 15 := by exact Nat.le_of_ble_eq_true rfl) : REG X (.Dict keys values pos) γ o P := by
  obtain ⟨trs, h1, h2⟩ := RPsG.go (X := X) (γ := γ) keys values hk hl
  refine ⟨PE.imp (pe_disp (h1 pos) hk hl h0 h15) fun σ H Q ⟨Hb, F, w, s, q⟩ => fun p hp => ?_⟩
  have hf := w.fresh hp
  refine h2 _ _ σ Hb F _ _ (h p hf) (w.newOwn hp ⟨[], upd_same, .nil⟩) s fun ps o3 vs Hb' H' k lk e1 w1 n1 => ?_
  obtain ⟨o', rfl, hf', k⟩ := k
  have hm : (p, D.dK []) ∈ (p, D.dK []) :: o' := List.mem_cons_self
  obtain ⟨ws0, h6, l0⟩ := (w1.own _ hm).2.2
  cases l0
  have lv : vs.length = ps.length := n1.len
  refine ⟨h6, vs, rfl, by rw [lv, lk]; exact h15, q (.adr p) _ _ Hb' _ k e1 ?_ (.adr p)⟩
  have w2 := w1.write (d := .dK (mergeD [] ps)) (u := .dK (mergeK [] vs)) hm ⟨_, upd_same, DenK.merge n1 .nil⟩
  rw [setO_cons hf'] at w2
  exact w2
/-- what is known of a store, forgotten where one goes on -/
theorem wb_forgetN {X : Cx} {γ : Sto} {o : Own} {rest : List Stmt} {N B C : Sto → Own → Prop} {R : D → Own → Prop} (h : WB X rest γ o (fun γ' o2 => ∃ γ3, LeS γ' γ3 ∧ N γ3 o2) R B C) : WB X rest γ o N R B C :=
  ⟨PSs.imp h.p fun D σ H ⟨H0, Hb, F, e, w, s, q1, q2, q3, q4⟩ => ⟨H0, Hb, F, e, w, s, fun γ' o' σ' Hb' H' ⟨γ3, hs, k⟩ e1 w1 s1 => q1 γ3 o' σ' Hb' H' k e1 w1 (s1.forget hs), q2, q3, q4⟩⟩
end J
end

section
set_option Elab.async false
set_option linter.all false
set_option maxRecDepth 100000
/-! W: methods of one's own lists; classes -/
namespace J
open PySem PySem.Spec PyProof.Rows L2
section
variable {X : Cx} {γ : Sto} {o : Own} {e a : Expr} {apos cpos : Pos} {P : D → Own → Prop}
theorem w_append (h : REG X a γ o fun d o1 => ∃ p, d = .adr p ∧ (∃ d0, (p, D.lst d0) ∈ o1) ∧ REG X e γ o1 fun d2 o2 => ∃ ds, (p, D.lst ds) ∈ o2 ∧ ds.length ≤ 100000 ∧ P .non (setO o2 p (.lst (ds ++ [d2]))))
    (hb : BmB X a "append" := by rfl) (hf : BmF X [e] cpos := by rfl) (hline : (apos.endLine == cpos.line) = true := by rfl) (hs : starEach [e] X.env = (false, eval e X.env) :: starEach [] X.env := by rfl) (hpl : (backTo cpos (starEach [] X.env)).any (·.1) = false := by rfl) :
    REG X (.Call (.Attribute a "append" apos) [e] [] cpos) γ o P :=
  ⟨PE.imp (pe_bm PySem.F.plainAttrs_list PySem.F.slot_list_append PySem.F.type_list_append mt_append h.p (pa_cons pe_u pa_nil hs) hb hf hline hs hpl) fun σ H Q ⟨Hb, F, w, s, q⟩ => ⟨Hb, F, w, s, fun d o1 x Hb1 H1 k1 e1 w1 n1 => by
    obtain ⟨p, rfl, ⟨d0, hp1⟩, h2⟩ := k1
    cases n1
    obtain ⟨ws, h1, _⟩ := (w1.own _ hp1).2.2
    refine ⟨.inl ⟨rfl, _, SqL.of h1⟩, γ, o1, _, h2, Hb1, F, w1, s.mono e1, fun d2 o2 y Hb2 H2 k2 e2 w2 n2 => ?_⟩
    obtain ⟨ds, hp, hl, k⟩ := k2
    obtain ⟨ws, h2, l⟩ := (w2.own _ hp).2.2
    exact ⟨p, ws, y, rfl, rfl, h2, by rw [l.len]; exact Nat.lt_of_le_of_lt hl (by decide), q _ _ _ Hb2 _ k (e1.trans e2) (w2.write hp ⟨_, upd_same, l.append (.cons n2 .nil)⟩) .non⟩⟩⟩
theorem w_extend (h : REG X a γ o fun d o1 => ∃ p, d = .adr p ∧ (∃ d0, (p, D.lst d0) ∈ o1) ∧ REG X e γ o1 fun d2 o2 => ∃ es ds, d2 = .lst es ∧ (p, D.lst ds) ∈ o2 ∧ ds.length + es.length ≤ 100000 ∧ P .non (setO o2 p (.lst (ds ++ es))))
    (hb : BmB X a "extend" := by rfl) (hf : BmF X [e] cpos := by rfl) (hline : (apos.endLine == cpos.line) = true := by rfl) (hs : starEach [e] X.env = (false, eval e X.env) :: starEach [] X.env := by rfl) (hpl : (backTo cpos (starEach [] X.env)).any (·.1) = false := by rfl) :
    REG X (.Call (.Attribute a "extend" apos) [e] [] cpos) γ o P :=
  ⟨PE.imp (pe_bm PySem.F.plainAttrs_list PySem.F.slot_list_extend PySem.F.type_list_extend mt_extend h.p (pa_cons pe_u pa_nil hs) hb hf hline hs hpl) fun σ H Q ⟨Hb, F, w, s, q⟩ => ⟨Hb, F, w, s, fun d o1 x Hb1 H1 k1 e1 w1 n1 => by
    obtain ⟨p, rfl, ⟨d0, hp1⟩, h2⟩ := k1
    cases n1
    obtain ⟨ws, h1, _⟩ := (w1.own _ hp1).2.2
    refine ⟨.inl ⟨rfl, _, SqL.of h1⟩, γ, o1, _, h2, Hb1, F, w1, s.mono e1, fun d2 o2 y Hb2 H2 k2 e2 w2 n2 => ?_⟩
    obtain ⟨es, ds, rfl, hp, hl, k⟩ := k2
    obtain ⟨ws, h2, l⟩ := (w2.own _ hp).2.2
    cases n2 with
    | @lst b zs _ h3 l3 => exact ⟨p, b, ws, zs, rfl, rfl, h2, w2.b _ _ h3, by rw [l.len, l3.len]; exact Nat.le_trans hl (by decide), q _ _ _ Hb2 _ k (e1.trans e2) (w2.write hp ⟨_, upd_same, l.append l3⟩) .non⟩⟩⟩
/-- .. that stands ahead of what is one's own -/
theorem w_appendH {q : Addr} {ds : List D} (hq : Fresh o q) (ha : RE X a γ ((q, .lst ds) :: o) (.adr q) ((q, .lst ds) :: o)) (h : REG X e γ ((q, .lst ds) :: o) fun d2 o2 => o2 = (q, .lst ds) :: o ∧ ds.length ≤ 100000 ∧ P .non ((q, .lst (ds ++ [d2])) :: o))
    (hb : BmB X a "append" := by rfl) (hf : BmF X [e] cpos := by rfl) (hline : (apos.endLine == cpos.line) = true := by rfl) (hs : starEach [e] X.env = (false, eval e X.env) :: starEach [] X.env := by rfl) (hpl : (backTo cpos (starEach [] X.env)).any (·.1) = false := by rfl) :
    REG X (.Call (.Attribute a "append" apos) [e] [] cpos) γ ((q, .lst ds) :: o) P :=
  w_append (w_of ha ⟨q, rfl, ⟨_, List.mem_cons_self⟩, w_mono h fun d2 o2 ⟨e2, hl, k⟩ => ⟨ds, by rw [e2]; exact List.mem_cons_self, hl, by rw [e2, setO_cons hq]; exact k⟩⟩) hb hf hline hs hpl
/-- waiting.pop() -/
theorem w_lpop {p : Addr} {ds : List D} {d : D} {o1 : Own} (ha : RE X a γ o (.adr p) o1) (hp : (p, D.lst (ds ++ [d])) ∈ o1) (k : P d (setO o1 p (.lst ds))) (hb : BmB X a "pop" := by rfl) (hline : (apos.endLine == cpos.line) = true := by rfl) :
    REG X (.Call (.Attribute a "pop" apos) [] [] cpos) γ o P := w_of (re_lpop ha hp hb hline) k
end
section
variable {X : Cx} {o : Own} {T : String} {k : Bool}
theorem isi_int {i : Int} (hb : kitB "int" T = some k) : BltD X "isinstance" o [.int i, .ty T] (.bl k) := isi_of (c := "int") rfl hb (by decide)
theorem isi_bl {i : Bool} (hb : kitB "bool" T = some k) : BltD X "isinstance" o [.bl i, .ty T] (.bl k) := isi_of (c := "bool") rfl hb (by decide)
theorem isi_str {i : Str} (hb : kitB "str" T = some k) : BltD X "isinstance" o [.str i, .ty T] (.bl k) := isi_of (c := "str") rfl hb (by decide)
theorem isi_non (hb : kitB "NoneType" T = some k) : BltD X "isinstance" o [.non, .ty T] (.bl k) := isi_of (c := "NoneType") rfl hb (by decide)
theorem isi_tup {ds : List D} (hb : kitB "tuple" T = some k) : BltD X "isinstance" o [.tup ds, .ty T] (.bl k) := isi_of (c := "tuple") rfl hb (by decide)
theorem isi_lst {ds : List D} (hb : kitB "list" T = some k) : BltD X "isinstance" o [.lst ds, .ty T] (.bl k) := isi_of (c := "list") rfl hb (by decide)
theorem isi_dT {ds : List (List Key × D)} (hb : kitB "dict" T = some k) : BltD X "isinstance" o [.dT ds, .ty T] (.bl k) := isi_of (c := "dict") rfl hb (by decide)
theorem isi_dK {ds : List (Key × D)} (hb : kitB "dict" T = some k) : BltD X "isinstance" o [.dK ds, .ty T] (.bl k) := isi_of (c := "dict") rfl hb (by decide)
end
/-! ### classes by name -/
section
variable {X : Cx} {γ : Sto} {o : Own} {pos : Pos} {P : D → Own → Prop}
theorem w_ty_int (B : Bi X.mg) (k : P (.ty "int") o) (hg : Gl X "int" := by rfl) : REG X (.Name "int" pos) γ o P := w_of (re_ty (n := "int") hg B.int (by decide +kernel)) k
theorem w_ty_bool (B : Bi X.mg) (k : P (.ty "bool") o) (hg : Gl X "bool" := by rfl) : REG X (.Name "bool" pos) γ o P := w_of (re_ty (n := "bool") hg B.bool (by decide +kernel)) k
theorem w_ty_str (B : Bi X.mg) (k : P (.ty "str") o) (hg : Gl X "str" := by rfl) : REG X (.Name "str" pos) γ o P := w_of (re_ty (n := "str") hg B.str (by decide +kernel)) k
theorem w_ty_dict (B : Bi X.mg) (k : P (.ty "dict") o) (hg : Gl X "dict" := by rfl) : REG X (.Name "dict" pos) γ o P := w_of (re_ty (n := "dict") hg B.dict (by decide +kernel)) k
theorem w_ty_tuple (B : Bi X.mg) (k : P (.ty "tuple") o) (hg : Gl X "tuple" := by rfl) : REG X (.Name "tuple" pos) γ o P := w_of (re_ty (n := "tuple") hg B.tuple (by decide +kernel)) k
theorem w_ty_list (B : Bi X.mg) (k : P (.ty "list") o) (hg : Gl X "list" := by rfl) : REG X (.Name "list" pos) γ o P := w_of (re_ty (n := "list") hg B.list (by decide +kernel)) k
end
section
variable {X : Cx} {o : Own}
theorem isi_int_int {i : Int} : BltD X "isinstance" o [.int i, .ty "int"] (.bl true) := isi_int (by decide +kernel)
theorem isi_int_bool {i : Int} : BltD X "isinstance" o [.int i, .ty "bool"] (.bl false) := isi_int (by decide +kernel)
theorem isi_int_str {i : Int} : BltD X "isinstance" o [.int i, .ty "str"] (.bl false) := isi_int (by decide +kernel)
theorem isi_int_dict {i : Int} : BltD X "isinstance" o [.int i, .ty "dict"] (.bl false) := isi_int (by decide +kernel)
theorem isi_int_tuple {i : Int} : BltD X "isinstance" o [.int i, .ty "tuple"] (.bl false) := isi_int (by decide +kernel)
theorem isi_int_list {i : Int} : BltD X "isinstance" o [.int i, .ty "list"] (.bl false) := isi_int (by decide +kernel)
theorem isi_bl_int {i : Bool} : BltD X "isinstance" o [.bl i, .ty "int"] (.bl true) := isi_bl (by decide +kernel)
theorem isi_bl_bool {i : Bool} : BltD X "isinstance" o [.bl i, .ty "bool"] (.bl true) := isi_bl (by decide +kernel)
theorem isi_bl_str {i : Bool} : BltD X "isinstance" o [.bl i, .ty "str"] (.bl false) := isi_bl (by decide +kernel)
theorem isi_bl_dict {i : Bool} : BltD X "isinstance" o [.bl i, .ty "dict"] (.bl false) := isi_bl (by decide +kernel)
theorem isi_bl_tuple {i : Bool} : BltD X "isinstance" o [.bl i, .ty "tuple"] (.bl false) := isi_bl (by decide +kernel)
theorem isi_bl_list {i : Bool} : BltD X "isinstance" o [.bl i, .ty "list"] (.bl false) := isi_bl (by decide +kernel)
theorem isi_str_int {i : Str} : BltD X "isinstance" o [.str i, .ty "int"] (.bl false) := isi_str (by decide +kernel)
theorem isi_str_bool {i : Str} : BltD X "isinstance" o [.str i, .ty "bool"] (.bl false) := isi_str (by decide +kernel)
theorem isi_str_str {i : Str} : BltD X "isinstance" o [.str i, .ty "str"] (.bl true) := isi_str (by decide +kernel)
theorem isi_str_dict {i : Str} : BltD X "isinstance" o [.str i, .ty "dict"] (.bl false) := isi_str (by decide +kernel)
theorem isi_str_tuple {i : Str} : BltD X "isinstance" o [.str i, .ty "tuple"] (.bl false) := isi_str (by decide +kernel)
theorem isi_str_list {i : Str} : BltD X "isinstance" o [.str i, .ty "list"] (.bl false) := isi_str (by decide +kernel)
theorem isi_non_int  : BltD X "isinstance" o [.non, .ty "int"] (.bl false) := isi_non (by decide +kernel)
theorem isi_non_bool  : BltD X "isinstance" o [.non, .ty "bool"] (.bl false) := isi_non (by decide +kernel)
theorem isi_non_str  : BltD X "isinstance" o [.non, .ty "str"] (.bl false) := isi_non (by decide +kernel)
theorem isi_non_dict  : BltD X "isinstance" o [.non, .ty "dict"] (.bl false) := isi_non (by decide +kernel)
theorem isi_non_tuple  : BltD X "isinstance" o [.non, .ty "tuple"] (.bl false) := isi_non (by decide +kernel)
theorem isi_non_list  : BltD X "isinstance" o [.non, .ty "list"] (.bl false) := isi_non (by decide +kernel)
theorem isi_tup_int {ds : List D} : BltD X "isinstance" o [.tup ds, .ty "int"] (.bl false) := isi_tup (by decide +kernel)
theorem isi_tup_bool {ds : List D} : BltD X "isinstance" o [.tup ds, .ty "bool"] (.bl false) := isi_tup (by decide +kernel)
theorem isi_tup_str {ds : List D} : BltD X "isinstance" o [.tup ds, .ty "str"] (.bl false) := isi_tup (by decide +kernel)
theorem isi_tup_dict {ds : List D} : BltD X "isinstance" o [.tup ds, .ty "dict"] (.bl false) := isi_tup (by decide +kernel)
theorem isi_tup_tuple {ds : List D} : BltD X "isinstance" o [.tup ds, .ty "tuple"] (.bl true) := isi_tup (by decide +kernel)
theorem isi_tup_list {ds : List D} : BltD X "isinstance" o [.tup ds, .ty "list"] (.bl false) := isi_tup (by decide +kernel)
theorem isi_lst_int {ds : List D} : BltD X "isinstance" o [.lst ds, .ty "int"] (.bl false) := isi_lst (by decide +kernel)
theorem isi_lst_bool {ds : List D} : BltD X "isinstance" o [.lst ds, .ty "bool"] (.bl false) := isi_lst (by decide +kernel)
theorem isi_lst_str {ds : List D} : BltD X "isinstance" o [.lst ds, .ty "str"] (.bl false) := isi_lst (by decide +kernel)
theorem isi_lst_dict {ds : List D} : BltD X "isinstance" o [.lst ds, .ty "dict"] (.bl false) := isi_lst (by decide +kernel)
theorem isi_lst_tuple {ds : List D} : BltD X "isinstance" o [.lst ds, .ty "tuple"] (.bl false) := isi_lst (by decide +kernel)
theorem isi_lst_list {ds : List D} : BltD X "isinstance" o [.lst ds, .ty "list"] (.bl true) := isi_lst (by decide +kernel)
theorem isi_dT_int {ds : List (List Key × D)} : BltD X "isinstance" o [.dT ds, .ty "int"] (.bl false) := isi_dT (by decide +kernel)
theorem isi_dT_bool {ds : List (List Key × D)} : BltD X "isinstance" o [.dT ds, .ty "bool"] (.bl false) := isi_dT (by decide +kernel)
theorem isi_dT_str {ds : List (List Key × D)} : BltD X "isinstance" o [.dT ds, .ty "str"] (.bl false) := isi_dT (by decide +kernel)
theorem isi_dT_dict {ds : List (List Key × D)} : BltD X "isinstance" o [.dT ds, .ty "dict"] (.bl true) := isi_dT (by decide +kernel)
theorem isi_dT_tuple {ds : List (List Key × D)} : BltD X "isinstance" o [.dT ds, .ty "tuple"] (.bl false) := isi_dT (by decide +kernel)
theorem isi_dT_list {ds : List (List Key × D)} : BltD X "isinstance" o [.dT ds, .ty "list"] (.bl false) := isi_dT (by decide +kernel)
theorem isi_dK_int {ds : List (Key × D)} : BltD X "isinstance" o [.dK ds, .ty "int"] (.bl false) := isi_dK (by decide +kernel)
theorem isi_dK_bool {ds : List (Key × D)} : BltD X "isinstance" o [.dK ds, .ty "bool"] (.bl false) := isi_dK (by decide +kernel)
theorem isi_dK_str {ds : List (Key × D)} : BltD X "isinstance" o [.dK ds, .ty "str"] (.bl false) := isi_dK (by decide +kernel)
theorem isi_dK_dict {ds : List (Key × D)} : BltD X "isinstance" o [.dK ds, .ty "dict"] (.bl true) := isi_dK (by decide +kernel)
theorem isi_dK_tuple {ds : List (Key × D)} : BltD X "isinstance" o [.dK ds, .ty "tuple"] (.bl false) := isi_dK (by decide +kernel)
theorem isi_dK_list {ds : List (Key × D)} : BltD X "isinstance" o [.dK ds, .ty "list"] (.bl false) := isi_dK (by decide +kernel)
end
/-- a, b, c = e1, e2, e3, all locals -/
theorem ws_par3 {X : Cx} {γ : Sto} {o : Own} {N B C : Sto → Own → Prop} {R : D → Own → Prop} (i j l : Nat) {x y z : Str} {a b c : Expr} {px py pz pt pos : Pos} {kt k2 pt2} (hc : X.calm = true) (hN : X.N.Nodup) (hi : X.N[i]? = some x) (hj : X.N[j]? = some y) (hl : X.N[l]? = some z) (hij : i ≠ j) (hil : i ≠ l) (hjl : j ≠ l)
    (hx : X.env.scope.names.lookup x = some .local) (hy : X.env.scope.names.lookup y = some .local) (hz : X.env.scope.names.lookup z = some .local) (ha : RAG X [a, b, c] γ o fun ds o1 => ∃ d1 d2 d3, ds = [d1, d2, d3] ∧ N (((γ.set i (some d1)).set j (some d2)).set l (some d3)) o1)
    (hw : swappedStores [.Tuple [.Name x px, .Name y py, .Name z pz] kt pt] (.Tuple [a, b, c] k2 pt2) X.env = pure (some [x, y, z]))
    (hs : swapsWithSole [.Tuple [.Name x px, .Name y py, .Name z pz] kt pt] (.Tuple [a, b, c] k2 pt2) pos.line X.env = pure false := by rfl) :
    WS X (.Assign [.Tuple [.Name x px, .Name y py, .Name z pz] kt pt] (.Tuple [a, b, c] k2 pt2) pos) γ o N R B C :=
  ⟨PS.imp (ps_par3 hc hN hi hj hl hij hil hjl hx hy hz ha.p hw hs) fun D σ H ⟨H0, Hb, F, e, w, s, q, _⟩ => ⟨Hb, F, w, s, fun ds o1 vs Hb1 H1 ⟨d1, d2, d3, ed, k⟩ e1 w1 n1 => by
    subst ed
    cases n1 with
    | cons n1 m1 =>
      cases m1 with
      | cons n2 m2 =>
        cases m2 with
        | cons n3 m3 =>
          cases m3
          exact ⟨_, _, _, rfl, q _ o1 _ Hb1 H1 k (e.trans e1) w1 ((((s.mono e1).set i n1).set j n2).set l n3)⟩⟩⟩
section
variable {X : Cx} {o : Own} {ds : List D}
theorem cmp_isNn : CmpD X .Is o .non .non (.bl true) := cmp_isN'
theorem cmp_isNt : CmpD X .Is o (.tup ds) .non (.bl false) := cmp_isN'
theorem cmp_notNn : CmpD X .IsNot o .non .non (.bl false) := cmp_notN'
theorem cmp_notNt : CmpD X .IsNot o (.tup ds) .non (.bl true) := cmp_notN'
end
end J
end

section
set_option Elab.async false
set_option maxHeartbeats 0
set_option linter.all false
set_option maxRecDepth 100000
/-! the law's draws, whatever is drawn -/
namespace J
open PySem PySem.Spec PyProof.Rows L2
local macro_rules | `(tactic| walk_at "vis") => `(tactic| first | exact Or.inl rfl | exact Or.inr (Or.inl rfl) | exact Or.inr (Or.inr rfl))
local macro_rules | `(tactic| walk_at "loc") => `(tactic| first | exact Or.inl rfl | exact Or.inr rfl)
local macro_rules | `(tactic| walk_at "var") => `(tactic| first
  | exact re_v 0 rfl rfl (by walk_at "vis") | exact re_v 1 rfl rfl (by walk_at "vis") | exact re_v 2 rfl rfl (by walk_at "vis") | exact re_v 3 rfl rfl (by walk_at "vis")
  | exact re_v 4 rfl rfl (by walk_at "vis") | exact re_v 5 rfl rfl (by walk_at "vis") | exact re_v 6 rfl rfl (by walk_at "vis") | exact re_v 7 rfl rfl (by walk_at "vis")
  | exact re_v 8 rfl rfl (by walk_at "vis") | exact re_v 9 rfl rfl (by walk_at "vis") | exact re_v 10 rfl rfl (by walk_at "vis") | exact re_v 11 rfl rfl (by walk_at "vis")
  | exact re_v 12 rfl rfl (by walk_at "vis") | exact re_v 13 rfl rfl (by walk_at "vis") | exact re_v 14 rfl rfl (by walk_at "vis") | exact re_v 15 rfl rfl (by walk_at "vis")
  | exact re_v 16 rfl rfl (by walk_at "vis") | exact re_v 17 rfl rfl (by walk_at "vis") | exact re_v 18 rfl rfl (by walk_at "vis") | exact re_v 19 rfl rfl (by walk_at "vis"))
local macro_rules | `(tactic| walk_at "ix") => `(tactic| first | exact ix_tupD rfl | exact ix_lstD rfl | exact ix_wtD rfl)
local macro_rules | `(tactic| walk_at "len") => `(tactic| first | exact Nat.le_of_ble_eq_true rfl | assumption | (simp; done) | (simp; omega))
local macro_rules | `(tactic| walk_at "ra") => `(tactic| first | ((with_reducible show RA _ [] _ _ _ _); exact ra_nil) | ((with_reducible show RA _ (_ :: _) _ _ _ _); exact ra_cons (by walk_at "ev") (by walk_at "ra")))
local macro_rules | `(tactic| walk_at "bin") => `(tactic| first | exact bin_addI | exact bin_subI | exact bin_addT (by walk_at "len") | exact bin_addL (by walk_at "len") | exact bin_mulI (Or.inr ⟨by decide, by decide⟩) | exact bin_mulI (Or.inl ⟨by decide, by decide⟩) | exact bin_modI (by decide) | exact bin_divW ⟨by decide, by decide⟩ | exact bin_pow ⟨by decide, by decide, by decide⟩)
local macro_rules | `(tactic| walk_at "ev") => `(tactic| first
  | ((with_reducible show RE _ (Expr.Name _ _) _ _ _ _); walk_at "var")
  | ((with_reducible show RE _ (Expr.Constant _ _ _) _ _ _ _); first | exact re_int | exact re_str | exact re_bl | exact re_non)
  | ((with_reducible show RE _ (Expr.Tuple _ _ _) _ _ _ _); exact re_tup (by walk_at "ra") (by walk_at "len"))
  | ((with_reducible show RE _ (Expr.List _ _) _ _ _ _); exact re_lst (by walk_at "ra") (by walk_at "len"))
  | ((with_reducible show RE _ (Expr.Subscript _ _ _) _ _ _ _); exact re_sub (by walk_at "ev") (by walk_at "ev") (by walk_at "ix"))
  | ((with_reducible show RE _ (Expr.BinOp _ _ _ _) _ _ _ _); exact re_bin (by walk_at "ev") (by walk_at "ev") (by walk_at "bin"))
  | assumption)
local macro_rules | `(tactic| walk_at "cmp") => `(tactic| first | exact cmp_ltI | exact cmp_leI | exact cmp_gtI | exact cmp_geI | exact cmp_eqI | exact cmp_neI | exact cmp_eqS | exact cmp_neS | exact cmp_eqB | exact cmp_neB | exact cmp_isNn | exact cmp_isNt | exact cmp_notNn | exact cmp_notNt | exact cmp_isN' | exact cmp_notN' | exact cmp_inSt (J.Room.u65 (by assumption)) .tup | exact cmp_inSt (J.Room.u65 (by assumption)) .lst | exact cmp_ninSt (J.Room.u65 (by assumption)) .tup | exact cmp_ninSt (J.Room.u65 (by assumption)) .lst | exact cmp_eqNil (J.Room.u0 (by assumption)) .lst | exact cmp_neNil (J.Room.u0 (by assumption)) .lst)
local macro_rules | `(tactic| walk_at "norm") => `(tactic| first | refine wb_as1 rfl ?_ | refine wb_as2 rfl ?_ | refine wb_as3 rfl ?_ | refine wb_as4 rfl ?_ | refine wb_as5 rfl ?_ | refine wb_as6 rfl ?_ | refine wb_as7 rfl ?_ | refine wb_as8 rfl ?_ | refine wb_as9 rfl ?_ | refine wb_as10 rfl ?_ | refine wb_as11 rfl ?_ | refine wb_as12 rfl ?_ | refine wb_as13 rfl ?_ | refine wb_as14 rfl ?_ | refine wb_as15 rfl ?_ | refine wb_as16 rfl ?_ | refine wb_as17 rfl ?_ | refine wb_as18 rfl ?_ | refine wb_as19 rfl ?_ | refine wb_as20 rfl ?_ | refine wb_as21 rfl ?_ | refine wb_as22 rfl ?_ | refine wb_as23 rfl ?_ | refine wb_as24 rfl ?_ | refine wb_as25 rfl ?_ | refine wb_as26 rfl ?_ | refine wb_as27 rfl ?_ | refine wb_as28 rfl ?_)
local macro_rules | `(tactic| walk_at "nd") => `(tactic| assumption)
local macro_rules | `(tactic| walk_at "blt") => `(tactic| first
  | ((with_reducible show REG _ (Expr.Call (Expr.Name "tuple" _) _ _ _) _ _ _); refine w_tuple (by assumption) ?_)
  | ((with_reducible show REG _ (Expr.Call (Expr.Name "len" _) _ _ _) _ _ _); refine w_len (by assumption) ?_)
  | ((with_reducible show REG _ (Expr.Call (Expr.Name "sorted" _) [Expr.Name _ _] _ _) _ _ _); refine w_sorted (by assumption) ?_)
  | ((with_reducible show REG _ (Expr.Call (Expr.Name "sorted" _) [Expr.BinOp _ _ _ _] _ _) _ _ _); refine w_sorted (by assumption) ?_)
  | ((with_reducible show REG _ (Expr.Call (Expr.Name "list" _) _ _ _) _ _ _); refine w_list (by assumption) ?_)
  | ((with_reducible show REG _ (Expr.Call (Expr.Name "dict" _) _ _ _) _ _ _); refine w_dict (by assumption) ?_)
  | ((with_reducible show REG _ (Expr.Call (Expr.Name "int" _) _ _ _) _ _ _); refine w_intB (by assumption) ?_)
  | ((with_reducible show REG _ (Expr.Call (Expr.Name "all" _) _ _ _) _ _ _); refine w_all (by assumption) ?_)
  | ((with_reducible show REG _ (Expr.Call (Expr.Name "any" _) _ _ _) _ _ _); refine w_any (by assumption) ?_)
  | ((with_reducible show REG _ (Expr.Call (Expr.Name "min" _) _ _ _) _ _ _); refine w_min (by assumption) ?_)
  | ((with_reducible show REG _ (Expr.Call (Expr.Name "max" _) _ _ _) _ _ _); refine w_max (by assumption) ?_)
  | ((with_reducible show REG _ (Expr.Call (Expr.Name "abs" _) _ _ _) _ _ _); refine w_abs (by assumption) ?_)
  | ((with_reducible show REG _ (Expr.Call (Expr.Name "isinstance" _) _ _ _) _ _ _); refine w_isi (by assumption) ?_)
  | ((with_reducible show REG _ (Expr.Call (Expr.Name "sum" _) _ _ _) _ _ _); refine w_sum (by assumption) ?_))
local macro_rules | `(tactic| walk_at "isi") => `(tactic| first
  | ((with_reducible show BltD _ _ _ [D.int _, _] _); first | exact isi_int_int | exact isi_int_bool | exact isi_int_str | exact isi_int_dict | exact isi_int_tuple | exact isi_int_list)
  | ((with_reducible show BltD _ _ _ [D.bl _, _] _); first | exact isi_bl_int | exact isi_bl_bool | exact isi_bl_str | exact isi_bl_dict | exact isi_bl_tuple | exact isi_bl_list)
  | ((with_reducible show BltD _ _ _ [D.str _, _] _); first | exact isi_str_int | exact isi_str_bool | exact isi_str_str | exact isi_str_dict | exact isi_str_tuple | exact isi_str_list)
  | ((with_reducible show BltD _ _ _ [D.non, _] _); first | exact isi_non_int | exact isi_non_bool | exact isi_non_str | exact isi_non_dict | exact isi_non_tuple | exact isi_non_list)
  | ((with_reducible show BltD _ _ _ [D.tup _, _] _); first | exact isi_tup_int | exact isi_tup_bool | exact isi_tup_str | exact isi_tup_dict | exact isi_tup_tuple | exact isi_tup_list)
  | ((with_reducible show BltD _ _ _ [D.lst _, _] _); first | exact isi_lst_int | exact isi_lst_bool | exact isi_lst_str | exact isi_lst_dict | exact isi_lst_tuple | exact isi_lst_list)
  | ((with_reducible show BltD _ _ _ [D.dT _, _] _); first | exact isi_dT_int | exact isi_dT_bool | exact isi_dT_str | exact isi_dT_dict | exact isi_dT_tuple | exact isi_dT_list)
  | ((with_reducible show BltD _ _ _ [D.dK _, _] _); first | exact isi_dK_int | exact isi_dK_bool | exact isi_dK_str | exact isi_dK_dict | exact isi_dK_tuple | exact isi_dK_list))
local macro_rules | `(tactic| walk_at "tyn") => `(tactic| first
  | ((with_reducible show REG _ (Expr.Name "int" _) _ _ _); refine w_ty_int (by assumption) ?_)
  | ((with_reducible show REG _ (Expr.Name "bool" _) _ _ _); refine w_ty_bool (by assumption) ?_)
  | ((with_reducible show REG _ (Expr.Name "str" _) _ _ _); refine w_ty_str (by assumption) ?_)
  | ((with_reducible show REG _ (Expr.Name "dict" _) _ _ _); refine w_ty_dict (by assumption) ?_)
  | ((with_reducible show REG _ (Expr.Name "tuple" _) _ _ _); refine w_ty_tuple (by assumption) ?_)
  | ((with_reducible show REG _ (Expr.Name "list" _) _ _ _); refine w_ty_list (by assumption) ?_))
local macro_rules | `(tactic| walk_at "args") => `(tactic| first | rfl | (simp only [List.cons.injEq, D.int.injEq, and_true, true_and]; omega))
local macro_rules | `(tactic| walk_at "call") => `(tactic| fail)
local macro_rules | `(tactic| walk_at "st1") => `(tactic| first
  | ((with_reducible show REG _ (Expr.Name _ _) _ _ _); first | walk_at "tyn" | walk_at "name")
  | ((with_reducible show REG _ (Expr.Constant _ _ _) _ _ _); first | refine w_int ?_ | refine w_str ?_ | refine w_bl ?_ | refine w_non ?_)
  | ((with_reducible show REG _ (Expr.Tuple _ _ _) _ _ _); refine w_tup ?_)
  | ((with_reducible show REG _ (Expr.List _ _) _ _ _); refine w_lst ?_)
  | ((with_reducible show REG _ (Expr.Subscript _ _ _) _ _ _); refine w_sub ?_)
  | ((with_reducible show REG _ (Expr.BinOp _ _ _ _) _ _ _); refine w_bin ?_)
  | ((with_reducible show REG _ (Expr.Compare _ _ _ _) _ _ _); refine w_cmp ?_)
  | ((with_reducible show REG _ (Expr.UnaryOp _ _ _) _ _ _); first | refine w_not ?_ | refine w_neg ?_)
  | ((with_reducible show REG _ (Expr.IfExp _ _ _ _) _ _ _); refine w_ifE ?_)
  | ((with_reducible show REG _ (Expr.BoolOp _ _ _) _ _ _); first | refine w_one ?_ | refine w_and ?_ | refine w_or ?_)
  | ((with_reducible show REG _ (Expr.Call (Expr.Attribute (Expr.Name _ _) "append" _) _ _ _) _ _ _); refine w_appendH (by assumption) (by walk_at "var") ?_)
  | ((with_reducible show _ = _ ∧ List.length _ ≤ 100000 ∧ _); refine ⟨rfl, by walk_at "len", ?_⟩)
  | ((with_reducible show REG _ (Expr.Call _ _ _ _) _ _ _); walk_at "call")
  | ((with_reducible show REG _ (Expr.Call (Expr.Name _ _) _ _ _) _ _ _); walk_at "blt")
  | ((with_reducible show ∃ d, BltD _ "len" _ _ d ∧ _); first | refine ⟨_, blt_len .tup, ?_⟩ | refine ⟨_, blt_len .lst, ?_⟩)
  | ((with_reducible show ∃ d, BltD _ "isinstance" _ _ d ∧ _); refine ⟨_, (by walk_at "isi"), ?_⟩)
  | ((with_reducible show ∃ d, BltD _ "abs" _ _ d ∧ _); refine ⟨_, blt_abs, ?_⟩)
  | ((with_reducible show ∃ d, TyD _ "int" _ _ d ∧ _); refine ⟨_, ty_int, ?_⟩)
  | ((with_reducible show ∃ d, TyD _ "tuple" _ _ d ∧ _); first | refine ⟨_, ty_tuple, ?_⟩ | refine ⟨_, ty_tupleT, ?_⟩)
  | ((with_reducible show RAG _ [] _ _ _); refine wa_nil ?_)
  | ((with_reducible show RAG _ (_ :: _) _ _ _); refine wa_cons ?_)
  | ((with_reducible show RTG _ (Expr.Compare _ _ _ _) _ _ _); refine wt_cmp ?_)
  | ((with_reducible show RTG _ (Expr.UnaryOp _ _ _) _ _ _); refine wt_not ?_)
  | ((with_reducible show RTG _ (Expr.BoolOp _ _ _) _ _ _); refine wt_w ?_)
  | ((with_reducible show RTG _ (Expr.Name _ _) _ _ _); refine wt_val ?_)
  | ((with_reducible show RTG _ (Expr.Call _ _ _ _) _ _ _); refine wt_val ?_)
  | ((with_reducible show RWG _ (Expr.BoolOp _ _ _) _ _ _); first | refine ww_and1 ?_ | refine ww_or1 ?_ | refine ww_and ?_ | refine ww_or ?_)
  | ((with_reducible show WS _ (Stmt.Assign [Expr.Name _ _] _ _) _ _ _ _ _ _); walk_at "set")
  | ((with_reducible show WS _ (Stmt.Return (some _) _) _ _ _ _ _ _); refine ws_ret ?_)
  | ((with_reducible show WS _ (Stmt.Return none _) _ _ _ _ _ _); refine ws_retN ?_)
  | ((with_reducible show WS _ (Stmt.Expr _ _) _ _ _ _ _ _); refine ws_expr ?_)
  | ((with_reducible show WS _ (Stmt.If _ _ _ _) _ _ _ _ _ _); refine ws_if ?_)
  | ((with_reducible show WS _ (Stmt.Pass _) _ _ _ _ _ _); refine ws_pass ?_)
  | ((with_reducible show WS _ (Stmt.Break _) _ _ _ _ _ _); refine ws_break ?_)
  | ((with_reducible show WS _ (Stmt.Continue _) _ _ _ _ _ _); refine ws_continue ?_)
  | ((with_reducible show WB _ _ (List.set _ _ _) _ _ _ _ _); walk_at "norm")
  | ((with_reducible show WB _ _ (startG _ _) _ _ _ _ _); walk_at "norm")
  | ((with_reducible show WB _ [] _ _ _ _ _ _); refine wb_nil ?_)
  | ((with_reducible show (List.length _ ≤ 100000 ∧ _)); refine ⟨by walk_at "len", ?_⟩)
  | refine ⟨_, (by walk_at "bin" : BinD _ _ _ _ _ _), ?_⟩
  | refine ⟨_, (by walk_at "cmp" : CmpD _ _ _ _ _ _), ?_⟩
  | refine ⟨_, (by walk_at "ix" : IxD _ _ _ _ _), ?_⟩
  | refine ix2 (by omega) (by omega) (fun h => ?_) (fun h => ?_)
  | refine ix3 (by omega) (by omega) (fun h => ?_) (fun h => ?_) (fun h => ?_)
  | ((with_reducible show ∃ k, (D.bl _ = D.bl k) ∧ _); refine ⟨_, rfl, ?_⟩)
  | ((with_reducible show ∃ k, (D.int _ = D.int k) ∧ _); refine ⟨_, rfl, ?_⟩)
  | ((with_reducible show (true = true → _) ∧ _); refine if_T ?_)
  | ((with_reducible show (false = true → _) ∧ _); refine if_F ?_)
  | ((with_reducible show ((!true) = true → _) ∧ _); refine if_NT ?_)
  | ((with_reducible show ((!false) = true → _) ∧ _); refine if_NF ?_)
  | ((with_reducible show (decide _ = true → _) ∧ _); refine if_dec (fun h => ?_) (fun h => ?_) <;> try (exfalso; first | omega | contradiction))
  | ((with_reducible show ((!decide _) = true → _) ∧ _); refine if_ndec (fun h => ?_) (fun h => ?_) <;> try (exfalso; first | omega | contradiction)))
local macro_rules | `(tactic| walk_at "st") => `(tactic| first | walk_at "st1" | ((show WB _ (_ :: _) _ _ _ _ _ _); refine wb_cons ?_))
local macro_rules | `(tactic| walk_at "cons") => `(tactic| ((show WB _ (_ :: _) _ _ _ _ _ _); refine wb_cons ?_))
local macro_rules | `(tactic| walk_at "go1") => `(tactic| repeat' walk_at "st1")
local macro_rules | `(tactic| walk_at "go") => `(tactic| repeat' walk_at "st")
/-- a def of the law that draws: args what it is given behind w, G what comes out -/
def HGen (P : Program) (w : World) (K : PySem.W.Frag) (mg : Str → Option Value) (base : Heap) (x : Str) (k : Nat) (args : List D) (G : D → Prop) : Prop :=
  ∀ (dr : List Int) (o0 : Own) (p : Addr), DrOk dr → IsW o0 p → HasG P w K mg base x k (args.length + 1) (fun ds o => (∃ m, o = oW o0 p dr m) ∧ ds = .adr p :: args) (fun _ _ d o' => (∃ m, o' = oW o0 p dr m) ∧ G d)
section
variable {X : Cx} {γ : Sto} {o : Own} {e : Expr} {es : List Expr} {pos p' : Pos} {x : Str} {dr : List Int} {o0 : Own} {p : Addr} {m : Nat} {Q : D → Own → Prop}
/-- a call of it with what is known to stand there -/
theorem w_gen {k : Nat} {args : List D} {G : D → Prop} (h : HGen X.prog X.w X.K X.mg X.base x k args G) (hdr : DrOk dr) (hw : IsW o0 p) (hr : Room k X.A) (ha : RAG X (e :: es) γ o fun ds o1 => (ds = .adr p :: args ∧ ∃ m, o1 = oW o0 p dr m) ∧ ∀ d m, G d → Q d (oW o0 p dr m))
    (hg : Gl X x := by rfl) (hdb : (x == ("__debug__" : Str)) = false := by decide) (he : starEach (e :: es) X.env = (false, eval e X.env) :: starEach es X.env := by rfl) (hpl : (backTo pos (starEach es X.env)).any (·.1) = false := by rfl) :
    REG X (.Call (.Name x p') (e :: es) [] pos) γ o Q := by
  refine w_call (h dr o0 p hdr hw) hr ?_ hg hdb he hpl
  refine ⟨PA.imp ha.p fun σ H S ⟨Hb, F, w, s, q⟩ => ⟨Hb, F, w, s, fun ds o' vs Hb' H' hh => q ds o' vs Hb' H' ?_⟩⟩
  obtain ⟨⟨rfl, m1, rfl⟩, hq⟩ := hh
  exact ⟨⟨⟨m1, rfl⟩, rfl⟩, fun d o2 ⟨⟨m2, e2⟩, hG⟩ => e2 ▸ hq d m2 hG⟩
/-- .. chosen behind its arguments -/
theorem w_genL {k0 : Nat} {args0 : List D} {G0 : D → Prop} (h0 : HGen X.prog X.w X.K X.mg X.base x k0 args0 G0) (hdr : DrOk dr) (hw : IsW o0 p) (ha : RAG X (e :: es) γ o fun ds o1 => ∃ k args G, HGen X.prog X.w X.K X.mg X.base x k args G ∧ Room k X.A ∧ ds = .adr p :: args ∧ (∃ m, o1 = oW o0 p dr m) ∧ ∀ d m, G d → Q d (oW o0 p dr m))
    (hg : Gl X x := by rfl) (hdb : (x == ("__debug__" : Str)) = false := by decide) (he : starEach (e :: es) X.env = (false, eval e X.env) :: starEach es X.env := by rfl) (hpl : (backTo pos (starEach es X.env)).any (·.1) = false := by rfl) :
    REG X (.Call (.Name x p') (e :: es) [] pos) γ o Q := by
  refine w_callL (h0 dr o0 p hdr hw).at ?_ hg hdb he hpl
  refine ⟨PA.imp ha.p fun σ H S ⟨Hb, F, w, s, q⟩ => ⟨Hb, F, w, s, fun ds o' vs Hb' H' hh => q ds o' vs Hb' H' ?_⟩⟩
  obtain ⟨k, args, G, h, hr, rfl, ⟨m1, rfl⟩, hq⟩ := hh
  exact ⟨k, _, _, _, h dr o0 p hdr hw, hr, ⟨⟨m1, rfl⟩, rfl⟩, fun d o2 ⟨⟨m2, e2⟩, hG⟩ => e2 ▸ hq d m2 hG⟩
/-- .. its arguments known -/
theorem w_genR {k : Nat} {args : List D} {G : D → Prop} {ds : List D} (h : HGen X.prog X.w X.K X.mg X.base x k args G) (hdr : DrOk dr) (hw : IsW o0 p) (hr : Room k X.A) (ha : RA X (e :: es) γ (oW o0 p dr m) ds (oW o0 p dr m)) (e1 : ds = .adr p :: args) (q : ∀ d m, G d → Q d (oW o0 p dr m))
    (hg : Gl X x := by rfl) (hdb : (x == ("__debug__" : Str)) = false := by decide) (he : starEach (e :: es) X.env = (false, eval e X.env) :: starEach es X.env := by rfl) (hpl : (backTo pos (starEach es X.env)).any (·.1) = false := by rfl) :
    REG X (.Call (.Name x p') (e :: es) [] pos) γ (oW o0 p dr m) Q := w_gen h hdr hw hr (wa_of ha ⟨⟨e1, m, rfl⟩, q⟩) hg hdb he hpl
def HNext (P : Program) (w : World) (K : PySem.W.Frag) (mg : Str → Option Value) (base : Heap) : Prop := ∀ m : Int, 0 < m → HGen P w K mg base "_law_next" 1 [.int m] fun d => ∃ j : Nat, (j : Int) < m ∧ d = .int (j : Int)
def HPick (P : Program) (w : World) (K : PySem.W.Frag) (mg : Str → Option Value) (base : Heap) : Prop := ∀ (xs : List D) (c : D), 0 < xs.length → (c = .tup xs ∨ c = .lst xs) → HGen P w K mg base "_law_pick" 2 [c] fun d => d ∈ xs
theorem w_next {i : Int} (h : HNext X.prog X.w X.K X.mg X.base) (hdr : DrOk dr) (hw : IsW o0 p) (hr : Room 1 X.A) (ha : RA X (e :: es) γ (oW o0 p dr m) [.adr p, .int i] (oW o0 p dr m)) (hi : 0 < i) (q : ∀ (j : Nat) m, (j : Int) < i → Q (.int (j : Int)) (oW o0 p dr m))
    (hg : Gl X "_law_next" := by rfl) (he : starEach (e :: es) X.env = (false, eval e X.env) :: starEach es X.env := by rfl) (hpl : (backTo pos (starEach es X.env)).any (·.1) = false := by rfl) :
    REG X (.Call (.Name "_law_next" p') (e :: es) [] pos) γ (oW o0 p dr m) Q := w_genR (h i hi) hdr hw hr ha rfl (by rintro d m ⟨j, hj, rfl⟩; exact q j m hj) hg (by decide) he hpl
end
section
variable {P : Program} {w : World} {K : PySem.W.Frag} {mg : Str → Option Value} {base : Heap} {f : Addr} {fd : FuncData}
/-- a def that draws, by its exact promise -/
theorem gen_of {x : Str} {k n : Nat} {args : List D} {G : D → Prop} {R : List D → Own → D → Own → Prop} (h : Has P w K mg base x k n R) (hn : n = args.length + 1)
    (hr : ∀ dr o0 p m, DrOk dr → IsW o0 p → ∃ d m2, R (.adr p :: args) (oW o0 p dr m) d (oW o0 p dr m2) ∧ G d) : HGen P w K mg base x k args G := fun dr o0 p hdr hw => by
  subst hn
  obtain ⟨f, fd, ps, l, F, r⟩ := h.ex
  refine ⟨f, fd, ps, l, F.imp fun vs H Q E ⟨Hb, F, ds, o, a1, a2, ⟨⟨m, e1⟩, e2⟩, a4⟩ => ?_, r⟩
  subst e1 e2
  obtain ⟨d, m2, hR, hG⟩ := hr dr o0 p m hdr hw
  exact ⟨Hb, F, _, _, d, _, a1, a2, hR, fun v Hb' H' => a4 d _ v Hb' H' ⟨⟨m2, rfl⟩, hG⟩⟩
theorem gen_next (h : Has P w K mg base "_law_next" 1 2 RNext) : HNext P w K mg base := fun m hm => gen_of h rfl fun dr o0 p n hdr hw => by
  have e : ((m.toNat : Nat) : Int) = m := by omega
  exact ⟨.int (nxt dr n m.toNat : Int), n + 1, ⟨dr, o0, p, n, m.toNat, hdr, hw, by omega, rfl, by rw [e], rfl, rfl⟩, nxt dr n m.toNat, by have := nxt_lt (dr := dr) (n := n) (m := m.toNat) (by omega); omega, rfl⟩
theorem gen_pick (h : Has P w K mg base "_law_pick" 2 2 RPick) : HPick P w K mg base := fun xs c hx e => gen_of h rfl fun dr o0 p n hdr hw => by
  have hlt := nxt_lt (dr := dr) (n := n) hx
  refine ⟨xs[nxt dr n xs.length], n + 1, ⟨dr, o0, p, n, xs, hdr, hw, hx, rfl, ?_, List.getElem?_eq_getElem hlt, rfl⟩, List.getElem_mem hlt⟩
  rcases e with rfl | rfl
  · exact .inl rfl
  · exact .inr rfl
/-- a def that draws, by its body -/
theorem gen_mk {x qual : Str} {st : Stmt} {f : Addr} {fd : FuncData} {N ps : List Str} {k : Nat} {args : List D} {G : D → Prop} (F : Fun K x qual st f fd) (sc : FnScope N ps (defScope st)) (hm : mg x = some (.ref f)) (hb : Binds K fd ps []) (hlen : args.length + 1 = ps.length)
    (body : ∀ (dr : List Int) (o0 : Own) (p : Addr) (m : Nat), DrOk dr → IsW o0 p → ∀ (cdv : Value) (A : Around) (outer : List Env) (s : Shared) (H : Hp) (E : XK), Room k (A.deeper (envOfC qual (defScope st) s.heap.objs.size f cdv)) → N.Nodup →
      WB (cxOf CX0 P w K mg base N qual (defScope st) f cdv A outer s H E).nox (defBody st) (startG N (.adr p :: args)) (oW o0 p dr m) (fun _ _ => False) (fun d o' => (∃ m, o' = oW o0 p dr m) ∧ G d) (fun _ _ => False) (fun _ _ => False)) : HGen P w K mg base x (k + 1) args G := fun dr o0 p hdr hw => by
  rw [hlen]
  refine hasG_mk F sc hm hb (by rintro ds o ⟨_, rfl⟩; exact hlen) fun cdv A outer s H E ds o hr hnd ⟨⟨m, e1⟩, e2⟩ => ?_
  subst e1 e2
  exact wb_mono (body dr o0 p m hdr hw cdv A outer s H E hr hnd) (fun _ _ h => h.elim) (fun _ _ h => h) (fun _ _ h => h) (fun _ _ h => h)
end
end J
end

section
set_option Elab.async false
set_option maxHeartbeats 0
set_option linter.all false
set_option maxRecDepth 100000
/-! expressions and conditions of a frame, well made -/
namespace J
open PySem PySem.Spec PyProof.Rows L2
local macro_rules | `(tactic| walk_at "vis") => `(tactic| first | exact Or.inl rfl | exact Or.inr (Or.inl rfl) | exact Or.inr (Or.inr rfl))
local macro_rules | `(tactic| walk_at "loc") => `(tactic| first | exact Or.inl rfl | exact Or.inr rfl)
local macro_rules | `(tactic| walk_at "var") => `(tactic| first
  | exact re_v 0 rfl rfl (by walk_at "vis") | exact re_v 1 rfl rfl (by walk_at "vis") | exact re_v 2 rfl rfl (by walk_at "vis") | exact re_v 3 rfl rfl (by walk_at "vis")
  | exact re_v 4 rfl rfl (by walk_at "vis") | exact re_v 5 rfl rfl (by walk_at "vis") | exact re_v 6 rfl rfl (by walk_at "vis") | exact re_v 7 rfl rfl (by walk_at "vis")
  | exact re_v 8 rfl rfl (by walk_at "vis") | exact re_v 9 rfl rfl (by walk_at "vis") | exact re_v 10 rfl rfl (by walk_at "vis") | exact re_v 11 rfl rfl (by walk_at "vis")
  | exact re_v 12 rfl rfl (by walk_at "vis") | exact re_v 13 rfl rfl (by walk_at "vis") | exact re_v 14 rfl rfl (by walk_at "vis") | exact re_v 15 rfl rfl (by walk_at "vis")
  | exact re_v 16 rfl rfl (by walk_at "vis") | exact re_v 17 rfl rfl (by walk_at "vis") | exact re_v 18 rfl rfl (by walk_at "vis") | exact re_v 19 rfl rfl (by walk_at "vis"))
local macro_rules | `(tactic| walk_at "ix") => `(tactic| first | exact ix_tupD rfl | exact ix_lstD rfl | exact ix_wtD rfl)
local macro_rules | `(tactic| walk_at "len") => `(tactic| first | exact Nat.le_of_ble_eq_true rfl | assumption | (simp; done) | (simp; omega))
local macro_rules | `(tactic| walk_at "ra") => `(tactic| first | ((with_reducible show RA _ [] _ _ _ _); exact ra_nil) | ((with_reducible show RA _ (_ :: _) _ _ _ _); exact ra_cons (by walk_at "ev") (by walk_at "ra")))
local macro_rules | `(tactic| walk_at "bin") => `(tactic| first | exact bin_addI | exact bin_subI | exact bin_addT (by walk_at "len") | exact bin_addL (by walk_at "len") | exact bin_mulI (Or.inr ⟨by decide, by decide⟩) | exact bin_mulI (Or.inl ⟨by decide, by decide⟩) | exact bin_modI (by decide) | exact bin_divW ⟨by decide, by decide⟩ | exact bin_pow ⟨by decide, by decide, by decide⟩)
local macro_rules | `(tactic| walk_at "ev") => `(tactic| first
  | ((with_reducible show RE _ (Expr.Name _ _) _ _ _ _); walk_at "var")
  | ((with_reducible show RE _ (Expr.Constant _ _ _) _ _ _ _); first | exact re_int | exact re_str | exact re_bl | exact re_non)
  | ((with_reducible show RE _ (Expr.Tuple _ _ _) _ _ _ _); exact re_tup (by walk_at "ra") (by walk_at "len"))
  | ((with_reducible show RE _ (Expr.List _ _) _ _ _ _); exact re_lst (by walk_at "ra") (by walk_at "len"))
  | ((with_reducible show RE _ (Expr.Subscript _ _ _) _ _ _ _); exact re_sub (by walk_at "ev") (by walk_at "ev") (by walk_at "ix"))
  | ((with_reducible show RE _ (Expr.BinOp _ _ _ _) _ _ _ _); exact re_bin (by walk_at "ev") (by walk_at "ev") (by walk_at "bin"))
  | assumption)
local macro_rules | `(tactic| walk_at "cmp") => `(tactic| first | exact cmp_ltI | exact cmp_leI | exact cmp_gtI | exact cmp_geI | exact cmp_eqI | exact cmp_neI | exact cmp_eqS | exact cmp_neS | exact cmp_eqB | exact cmp_neB | exact cmp_isNn | exact cmp_isNt | exact cmp_notNn | exact cmp_notNt | exact cmp_isN' | exact cmp_notN' | exact cmp_inSt (J.Room.u65 (by assumption)) .tup | exact cmp_inSt (J.Room.u65 (by assumption)) .lst | exact cmp_ninSt (J.Room.u65 (by assumption)) .tup | exact cmp_ninSt (J.Room.u65 (by assumption)) .lst | exact cmp_eqNil (J.Room.u0 (by assumption)) .lst | exact cmp_neNil (J.Room.u0 (by assumption)) .lst)
local macro_rules | `(tactic| walk_at "norm") => `(tactic| first | refine wb_as1 rfl ?_ | refine wb_as2 rfl ?_ | refine wb_as3 rfl ?_ | refine wb_as4 rfl ?_ | refine wb_as5 rfl ?_ | refine wb_as6 rfl ?_ | refine wb_as7 rfl ?_ | refine wb_as8 rfl ?_ | refine wb_as9 rfl ?_ | refine wb_as10 rfl ?_ | refine wb_as11 rfl ?_ | refine wb_as12 rfl ?_ | refine wb_as13 rfl ?_ | refine wb_as14 rfl ?_ | refine wb_as15 rfl ?_ | refine wb_as16 rfl ?_ | refine wb_as17 rfl ?_ | refine wb_as18 rfl ?_ | refine wb_as19 rfl ?_ | refine wb_as20 rfl ?_ | refine wb_as21 rfl ?_ | refine wb_as22 rfl ?_ | refine wb_as23 rfl ?_ | refine wb_as24 rfl ?_ | refine wb_as25 rfl ?_ | refine wb_as26 rfl ?_ | refine wb_as27 rfl ?_ | refine wb_as28 rfl ?_)
local macro_rules | `(tactic| walk_at "nd") => `(tactic| assumption)
local macro_rules | `(tactic| walk_at "blt") => `(tactic| first
  | ((with_reducible show REG _ (Expr.Call (Expr.Name "tuple" _) _ _ _) _ _ _); refine w_tuple (by assumption) ?_)
  | ((with_reducible show REG _ (Expr.Call (Expr.Name "len" _) _ _ _) _ _ _); refine w_len (by assumption) ?_)
  | ((with_reducible show REG _ (Expr.Call (Expr.Name "sorted" _) [Expr.Name _ _] _ _) _ _ _); refine w_sorted (by assumption) ?_)
  | ((with_reducible show REG _ (Expr.Call (Expr.Name "sorted" _) [Expr.BinOp _ _ _ _] _ _) _ _ _); refine w_sorted (by assumption) ?_)
  | ((with_reducible show REG _ (Expr.Call (Expr.Name "list" _) _ _ _) _ _ _); refine w_list (by assumption) ?_)
  | ((with_reducible show REG _ (Expr.Call (Expr.Name "dict" _) _ _ _) _ _ _); refine w_dict (by assumption) ?_)
  | ((with_reducible show REG _ (Expr.Call (Expr.Name "int" _) _ _ _) _ _ _); refine w_intB (by assumption) ?_)
  | ((with_reducible show REG _ (Expr.Call (Expr.Name "all" _) _ _ _) _ _ _); refine w_all (by assumption) ?_)
  | ((with_reducible show REG _ (Expr.Call (Expr.Name "any" _) _ _ _) _ _ _); refine w_any (by assumption) ?_)
  | ((with_reducible show REG _ (Expr.Call (Expr.Name "min" _) _ _ _) _ _ _); refine w_min (by assumption) ?_)
  | ((with_reducible show REG _ (Expr.Call (Expr.Name "max" _) _ _ _) _ _ _); refine w_max (by assumption) ?_)
  | ((with_reducible show REG _ (Expr.Call (Expr.Name "abs" _) _ _ _) _ _ _); refine w_abs (by assumption) ?_)
  | ((with_reducible show REG _ (Expr.Call (Expr.Name "isinstance" _) _ _ _) _ _ _); refine w_isi (by assumption) ?_)
  | ((with_reducible show REG _ (Expr.Call (Expr.Name "sum" _) _ _ _) _ _ _); refine w_sum (by assumption) ?_))
local macro_rules | `(tactic| walk_at "isi") => `(tactic| first
  | ((with_reducible show BltD _ _ _ [D.int _, _] _); first | exact isi_int_int | exact isi_int_bool | exact isi_int_str | exact isi_int_dict | exact isi_int_tuple | exact isi_int_list)
  | ((with_reducible show BltD _ _ _ [D.bl _, _] _); first | exact isi_bl_int | exact isi_bl_bool | exact isi_bl_str | exact isi_bl_dict | exact isi_bl_tuple | exact isi_bl_list)
  | ((with_reducible show BltD _ _ _ [D.str _, _] _); first | exact isi_str_int | exact isi_str_bool | exact isi_str_str | exact isi_str_dict | exact isi_str_tuple | exact isi_str_list)
  | ((with_reducible show BltD _ _ _ [D.non, _] _); first | exact isi_non_int | exact isi_non_bool | exact isi_non_str | exact isi_non_dict | exact isi_non_tuple | exact isi_non_list)
  | ((with_reducible show BltD _ _ _ [D.tup _, _] _); first | exact isi_tup_int | exact isi_tup_bool | exact isi_tup_str | exact isi_tup_dict | exact isi_tup_tuple | exact isi_tup_list)
  | ((with_reducible show BltD _ _ _ [D.lst _, _] _); first | exact isi_lst_int | exact isi_lst_bool | exact isi_lst_str | exact isi_lst_dict | exact isi_lst_tuple | exact isi_lst_list)
  | ((with_reducible show BltD _ _ _ [D.dT _, _] _); first | exact isi_dT_int | exact isi_dT_bool | exact isi_dT_str | exact isi_dT_dict | exact isi_dT_tuple | exact isi_dT_list)
  | ((with_reducible show BltD _ _ _ [D.dK _, _] _); first | exact isi_dK_int | exact isi_dK_bool | exact isi_dK_str | exact isi_dK_dict | exact isi_dK_tuple | exact isi_dK_list))
local macro_rules | `(tactic| walk_at "tyn") => `(tactic| first
  | ((with_reducible show REG _ (Expr.Name "int" _) _ _ _); refine w_ty_int (by assumption) ?_)
  | ((with_reducible show REG _ (Expr.Name "bool" _) _ _ _); refine w_ty_bool (by assumption) ?_)
  | ((with_reducible show REG _ (Expr.Name "str" _) _ _ _); refine w_ty_str (by assumption) ?_)
  | ((with_reducible show REG _ (Expr.Name "dict" _) _ _ _); refine w_ty_dict (by assumption) ?_)
  | ((with_reducible show REG _ (Expr.Name "tuple" _) _ _ _); refine w_ty_tuple (by assumption) ?_)
  | ((with_reducible show REG _ (Expr.Name "list" _) _ _ _); refine w_ty_list (by assumption) ?_))
local macro_rules | `(tactic| walk_at "args") => `(tactic| first | rfl | (simp only [List.cons.injEq, D.int.injEq, and_true, true_and]; omega))
local macro_rules | `(tactic| walk_at "call") => `(tactic| fail)
local macro_rules | `(tactic| walk_at "st1") => `(tactic| first
  | ((with_reducible show REG _ (Expr.Name _ _) _ _ _); first | walk_at "tyn" | walk_at "name")
  | ((with_reducible show REG _ (Expr.Constant _ _ _) _ _ _); first | refine w_int ?_ | refine w_str ?_ | refine w_bl ?_ | refine w_non ?_)
  | ((with_reducible show REG _ (Expr.Tuple _ _ _) _ _ _); refine w_tup ?_)
  | ((with_reducible show REG _ (Expr.List _ _) _ _ _); refine w_lst ?_)
  | ((with_reducible show REG _ (Expr.Subscript _ _ _) _ _ _); refine w_sub ?_)
  | ((with_reducible show REG _ (Expr.BinOp _ _ _ _) _ _ _); refine w_bin ?_)
  | ((with_reducible show REG _ (Expr.Compare _ _ _ _) _ _ _); refine w_cmp ?_)
  | ((with_reducible show REG _ (Expr.UnaryOp _ _ _) _ _ _); first | refine w_not ?_ | refine w_neg ?_)
  | ((with_reducible show REG _ (Expr.IfExp _ _ _ _) _ _ _); refine w_ifE ?_)
  | ((with_reducible show REG _ (Expr.BoolOp _ _ _) _ _ _); first | refine w_one ?_ | refine w_and ?_ | refine w_or ?_)
  | ((with_reducible show REG _ (Expr.Call (Expr.Attribute (Expr.Name _ _) "append" _) _ _ _) _ _ _); refine w_appendH (by assumption) (by walk_at "var") ?_)
  | ((with_reducible show _ = _ ∧ List.length _ ≤ 100000 ∧ _); refine ⟨rfl, by walk_at "len", ?_⟩)
  | ((with_reducible show REG _ (Expr.Call _ _ _ _) _ _ _); walk_at "call")
  | ((with_reducible show REG _ (Expr.Call (Expr.Name _ _) _ _ _) _ _ _); walk_at "blt")
  | ((with_reducible show ∃ d, BltD _ "len" _ _ d ∧ _); first | refine ⟨_, blt_len .tup, ?_⟩ | refine ⟨_, blt_len .lst, ?_⟩)
  | ((with_reducible show ∃ d, BltD _ "isinstance" _ _ d ∧ _); refine ⟨_, (by walk_at "isi"), ?_⟩)
  | ((with_reducible show ∃ d, BltD _ "abs" _ _ d ∧ _); refine ⟨_, blt_abs, ?_⟩)
  | ((with_reducible show ∃ d, TyD _ "int" _ _ d ∧ _); refine ⟨_, ty_int, ?_⟩)
  | ((with_reducible show ∃ d, TyD _ "tuple" _ _ d ∧ _); first | refine ⟨_, ty_tuple, ?_⟩ | refine ⟨_, ty_tupleT, ?_⟩)
  | ((with_reducible show RAG _ [] _ _ _); refine wa_nil ?_)
  | ((with_reducible show RAG _ (_ :: _) _ _ _); refine wa_cons ?_)
  | ((with_reducible show RTG _ (Expr.Compare _ _ _ _) _ _ _); refine wt_cmp ?_)
  | ((with_reducible show RTG _ (Expr.UnaryOp _ _ _) _ _ _); refine wt_not ?_)
  | ((with_reducible show RTG _ (Expr.BoolOp _ _ _) _ _ _); refine wt_w ?_)
  | ((with_reducible show RTG _ (Expr.Name _ _) _ _ _); refine wt_val ?_)
  | ((with_reducible show RTG _ (Expr.Call _ _ _ _) _ _ _); refine wt_val ?_)
  | ((with_reducible show RWG _ (Expr.BoolOp _ _ _) _ _ _); first | refine ww_and1 ?_ | refine ww_or1 ?_ | refine ww_and ?_ | refine ww_or ?_)
  | ((with_reducible show WS _ (Stmt.Assign [Expr.Name _ _] _ _) _ _ _ _ _ _); walk_at "set")
  | ((with_reducible show WS _ (Stmt.Return (some _) _) _ _ _ _ _ _); refine ws_ret ?_)
  | ((with_reducible show WS _ (Stmt.Return none _) _ _ _ _ _ _); refine ws_retN ?_)
  | ((with_reducible show WS _ (Stmt.Expr _ _) _ _ _ _ _ _); refine ws_expr ?_)
  | ((with_reducible show WS _ (Stmt.If _ _ _ _) _ _ _ _ _ _); refine ws_if ?_)
  | ((with_reducible show WS _ (Stmt.Pass _) _ _ _ _ _ _); refine ws_pass ?_)
  | ((with_reducible show WS _ (Stmt.Break _) _ _ _ _ _ _); refine ws_break ?_)
  | ((with_reducible show WS _ (Stmt.Continue _) _ _ _ _ _ _); refine ws_continue ?_)
  | ((with_reducible show WB _ _ (List.set _ _ _) _ _ _ _ _); walk_at "norm")
  | ((with_reducible show WB _ _ (startG _ _) _ _ _ _ _); walk_at "norm")
  | ((with_reducible show WB _ [] _ _ _ _ _ _); refine wb_nil ?_)
  | ((with_reducible show (List.length _ ≤ 100000 ∧ _)); refine ⟨by walk_at "len", ?_⟩)
  | refine ⟨_, (by walk_at "bin" : BinD _ _ _ _ _ _), ?_⟩
  | refine ⟨_, (by walk_at "cmp" : CmpD _ _ _ _ _ _), ?_⟩
  | refine ⟨_, (by walk_at "ix" : IxD _ _ _ _ _), ?_⟩
  | refine ix2 (by omega) (by omega) (fun h => ?_) (fun h => ?_)
  | refine ix3 (by omega) (by omega) (fun h => ?_) (fun h => ?_) (fun h => ?_)
  | ((with_reducible show ∃ k, (D.bl _ = D.bl k) ∧ _); refine ⟨_, rfl, ?_⟩)
  | ((with_reducible show ∃ k, (D.int _ = D.int k) ∧ _); refine ⟨_, rfl, ?_⟩)
  | ((with_reducible show (true = true → _) ∧ _); refine if_T ?_)
  | ((with_reducible show (false = true → _) ∧ _); refine if_F ?_)
  | ((with_reducible show ((!true) = true → _) ∧ _); refine if_NT ?_)
  | ((with_reducible show ((!false) = true → _) ∧ _); refine if_NF ?_)
  | ((with_reducible show (decide _ = true → _) ∧ _); refine if_dec (fun h => ?_) (fun h => ?_) <;> try (exfalso; first | omega | contradiction))
  | ((with_reducible show ((!decide _) = true → _) ∧ _); refine if_ndec (fun h => ?_) (fun h => ?_) <;> try (exfalso; first | omega | contradiction)))
local macro_rules | `(tactic| walk_at "st") => `(tactic| first | walk_at "st1" | ((show WB _ (_ :: _) _ _ _ _ _ _); refine wb_cons ?_))
local macro_rules | `(tactic| walk_at "cons") => `(tactic| ((show WB _ (_ :: _) _ _ _ _ _ _); refine wb_cons ?_))
local macro_rules | `(tactic| walk_at "go1") => `(tactic| repeat' walk_at "st1")
local macro_rules | `(tactic| walk_at "go") => `(tactic| repeat' walk_at "st")
def EWf (fr : Fr) (ol : Bool) : Exp → Prop
  | .num i => -1000 ≤ i ∧ i ≤ 1000
  | .nam x => x ∈ namesF fr
  | .old x => ol = true ∧ x ∈ namesF fr
  | .two _ a b => EWf fr ol a ∧ EWf fr ol b
def CWf (fr : Fr) (ol : Bool) : Cnd → Prop
  | .truth _ => True
  | .not c => CWf fr ol c
  | .and c d => CWf fr ol c ∧ CWf fr ol d
  | .or c d => CWf fr ol c ∧ CWf fr ol d
  | .same a b => (EWf fr ol a ∧ a.depth ≤ 3) ∧ EWf fr ol b ∧ b.depth ≤ 3
  | .less a b => (EWf fr ol a ∧ a.depth ≤ 3) ∧ EWf fr ol b ∧ b.depth ≤ 3
def Bnd : Nat → Int
  | 0 => 1000
  | n + 1 => Bnd n * Bnd n
theorem bnd_ge : ∀ n, 1000 ≤ Bnd n
  | 0 => Int.le_refl _
  | n + 1 => by
    have h := bnd_ge n
    have h2 : (1000 : Int) * Bnd n ≤ Bnd n * Bnd n := Int.mul_le_mul_of_nonneg_right h (by omega)
    show 1000 ≤ Bnd n * Bnd n
    omega
theorem bnd_step (n : Nat) : 2 * Bnd n ≤ Bnd (n + 1) := by
  have h := bnd_ge n
  have h2 : (2 : Int) * Bnd n ≤ Bnd n * Bnd n := Int.mul_le_mul_of_nonneg_right (by omega) (by omega)
  exact h2
theorem bnd_mono : ∀ {m n : Nat}, m ≤ n → Bnd m ≤ Bnd n := fun {m n} h => by
  obtain ⟨k, rfl⟩ := Nat.le.dest h
  clear h
  induction k with
  | zero => exact Int.le_refl _
  | succ k ih =>
    have h1 := bnd_step (m + k)
    have h2 := bnd_ge (m + k)
    show Bnd m ≤ Bnd (m + k + 1)
    omega
theorem inF_at : ∀ {fr : Fr} {s : List Int} (j : Nat), (∀ r ∈ fr, -100 ≤ r.2.1 ∧ r.2.1 ≤ 100 ∧ -100 ≤ r.2.2 ∧ r.2.2 ≤ 100) → s.length = fr.length → inF fr s = true → -100 ≤ s.getD j 0 ∧ s.getD j 0 ≤ 100
  | [], s, j, _, h, _ => by
    have e : s = [] := List.length_eq_zero_iff.mp h
    subst e
    exact ⟨by simp, by simp⟩
  | r :: f, [], j, _, h, _ => by cases h
  | r :: f, v :: s, j, hr, hl, hi => by
    rw [inF_cons, Bool.and_eq_true, Bool.and_eq_true] at hi
    obtain ⟨⟨h1, h2⟩, h3⟩ := hi
    have h1 := of_decide_eq_true h1
    have h2 := of_decide_eq_true h2
    have hrr := hr r List.mem_cons_self
    cases j with
    | zero => show -100 ≤ v ∧ v ≤ 100; omega
    | succ j => exact inF_at (fr := f) (s := s) j (fun q hq => hr q (List.mem_cons_of_mem _ hq)) (Nat.succ.inj hl) h3
theorem st_small {fr : Fr} {s : List Int} (hf : FrOk fr) (h : s ∈ statesF fr) (j : Nat) : -100 ≤ s.getD j 0 ∧ s.getD j 0 ≤ 100 := by
  obtain ⟨h1, h2⟩ := mem_statesF.mp h
  exact inF_at j hf.nums h1 h2
def OldIn (fr : Fr) (ol : Bool) (old : Option (List Int)) : Prop := ol = true → ∃ t, old = some t ∧ t ∈ statesF fr
theorem worth_bnd {fr : Fr} {ol : Bool} {s : List Int} {old : Option (List Int)} (hf : FrOk fr) (hs : s ∈ statesF fr) (ho : OldIn fr ol old) : ∀ {e : Exp}, EWf fr ol e → -Bnd e.depth ≤ worthE fr s old e ∧ worthE fr s old e ≤ Bnd e.depth
  | .num i, h => h
  | .nam x, _ => by
    have z := st_small hf hs (placeF fr x)
    show -1000 ≤ s.getD _ 0 ∧ s.getD _ 0 ≤ 1000
    omega
  | .old x, h => by
    obtain ⟨t, rfl, ht⟩ := ho h.1
    have z := st_small hf ht (placeF fr x)
    show -1000 ≤ t.getD _ 0 ∧ t.getD _ 0 ≤ 1000
    omega
  | .two op a b, h => by
    have ha := worth_bnd hf hs ho h.1
    have hb := worth_bnd hf hs ho h.2
    have ma : Bnd a.depth ≤ Bnd (Nat.max a.depth b.depth) := bnd_mono (Nat.le_max_left _ _)
    have mb : Bnd b.depth ≤ Bnd (Nat.max a.depth b.depth) := bnd_mono (Nat.le_max_right _ _)
    show -Bnd (Nat.max a.depth b.depth + 1) ≤ op.fn _ _ ∧ op.fn _ _ ≤ Bnd (Nat.max a.depth b.depth + 1)
    have st := bnd_step (Nat.max a.depth b.depth)
    have ge := bnd_ge (Nat.max a.depth b.depth)
    generalize worthE fr s old a = i at *
    generalize worthE fr s old b = j at *
    have e : Bnd (Nat.max a.depth b.depth + 1) = Bnd (Nat.max a.depth b.depth) * Bnd (Nat.max a.depth b.depth) := rfl
    generalize Bnd (Nat.max a.depth b.depth) = M at *
    generalize Bnd (Nat.max a.depth b.depth + 1) = M2 at *
    cases op with
    | add => show -M2 ≤ i + j ∧ i + j ≤ M2; omega
    | sub => show -M2 ≤ i - j ∧ i - j ≤ M2; omega
    | min => show -M2 ≤ (if j < i then j else i) ∧ (if j < i then j else i) ≤ M2; split <;> omega
    | max => show -M2 ≤ (if j > i then j else i) ∧ (if j > i then j else i) ≤ M2; split <;> omega
    | mul =>
      show -M2 ≤ i * j ∧ i * j ≤ M2
      have h1 : i.natAbs ≤ M.toNat := by omega
      have h2 : j.natAbs ≤ M.toNat := by omega
      have h3 : (i * j).natAbs ≤ M.toNat * M.toNat := by rw [Int.natAbs_mul]; exact Nat.mul_le_mul h1 h2
      have h4 : ((M.toNat * M.toNat : Nat) : Int) = M2 := by rw [e, Int.natCast_mul, Int.toNat_of_nonneg (by omega)]
      omega
theorem ewf_ok {fr : Fr} {ol : Bool} {s : List Int} {old : Option (List Int)} (hf : FrOk fr) (hs : s ∈ statesF fr) (ho : OldIn fr ol old) : ∀ {e : Exp}, EWf fr ol e → e.depth ≤ 3 → EOk fr s old e
  | .num i, _, _ => trivial
  | .nam x, h, _ => h
  | .old x, h, _ => by
    obtain ⟨t, e, ht⟩ := ho h.1
    exact ⟨h.2, t, e, statesF_len ht⟩
  | .two op a b, h, hd => by
    have hd : Nat.max a.depth b.depth + 1 ≤ 3 := hd
    have da : a.depth ≤ Nat.max a.depth b.depth := Nat.le_max_left _ _
    have db : b.depth ≤ Nat.max a.depth b.depth := Nat.le_max_right _ _
    refine ⟨ewf_ok hf hs ho h.1 (by omega), ewf_ok hf hs ho h.2 (by omega), fun _ => .inl ?_⟩
    have z := worth_bnd hf hs ho h.1
    have m : Bnd a.depth ≤ Bnd 2 := bnd_mono (by omega)
    have e : Bnd 2 = 1000000000000 := by decide
    omega
theorem cwf_ok {fr : Fr} {ol : Bool} {s : List Int} {old : Option (List Int)} (hf : FrOk fr) (hs : s ∈ statesF fr) (ho : OldIn fr ol old) : ∀ {c : Cnd}, CWf fr ol c → COk fr s old c
  | .truth _, _ => trivial
  | .not c, h => cwf_ok (c := c) hf hs ho h
  | .and c d, h => ⟨cwf_ok (c := c) hf hs ho h.1, cwf_ok (c := d) hf hs ho h.2⟩
  | .or c d, h => ⟨cwf_ok (c := c) hf hs ho h.1, cwf_ok (c := d) hf hs ho h.2⟩
  | .same a b, h => ⟨ewf_ok hf hs ho h.1.1 h.1.2, ewf_ok hf hs ho h.2.1 h.2.2⟩
  | .less a b, h => ⟨ewf_ok hf hs ho h.1.1 h.1.2, ewf_ok hf hs ho h.2.1 h.2.2⟩
/-! ### what is drawn -/
theorem namAt_mem {dr : List Int} {fr : Fr} {n : Nat} (h : 1 ≤ fr.length) : namAt dr fr n ∈ namesF fr := by
  have hl : (namesF fr).length = fr.length := List.length_map _
  have h1 : nxt dr n (namesF fr).length < (namesF fr).length := nxt_lt (by omega)
  unfold namAt
  rw [List.getD_eq_getElem?_getD, List.getElem?_eq_getElem h1]
  exact List.getElem_mem h1
theorem leafG_wf {dr : List Int} {fr : Fr} {ol : Bool} {n : Nat} (h : 1 ≤ fr.length) : EWf fr ol (leafG dr fr ol n).1 ∧ (leafG dr fr ol n).1.depth = 0 := by
  unfold leafG
  split
  · refine ⟨?_, rfl⟩
    show -1000 ≤ numAt _ ∧ numAt _ ≤ 1000
    have hj : nxt dr (n + 1) 5 < 5 := nxt_lt (by decide)
    generalize nxt dr (n + 1) 5 = a at hj
    rcases (show a = 0 ∨ a = 1 ∨ a = 2 ∨ a = 3 ∨ a = 4 by omega) with rfl | rfl | rfl | rfl | rfl <;> exact ⟨by decide, by decide⟩
  · split
    · rename_i ho
      subst ho
      split
      · exact ⟨⟨rfl, namAt_mem h⟩, rfl⟩
      · exact ⟨namAt_mem h, rfl⟩
    · exact ⟨namAt_mem h, rfl⟩
theorem exprG_wf {dr : List Int} {fr : Fr} {ol : Bool} (h : 1 ≤ fr.length) : ∀ (deep n : Nat), EWf fr ol (exprG dr fr ol deep n).1 ∧ (exprG dr fr ol deep n).1.depth ≤ deep
  | 0, n => by
    have z := leafG_wf (dr := dr) (ol := ol) (n := n + 1) h
    exact ⟨z.1, Nat.le_of_eq z.2⟩
  | deep + 1, n => by
    unfold exprG
    split
    · have z := leafG_wf (dr := dr) (ol := ol) (n := n + 1) h
      exact ⟨z.1, by rw [z.2]; exact Nat.zero_le _⟩
    · have z1 := exprG_wf (dr := dr) (ol := ol) h deep (n + 2)
      have z2 := exprG_wf (dr := dr) (ol := ol) h deep (exprG dr fr ol deep (n + 2)).2
      refine ⟨⟨z1.1, z2.1⟩, ?_⟩
      show Nat.max _ _ + 1 ≤ deep + 1
      exact Nat.succ_le_succ (Nat.max_le.mpr ⟨z1.2, z2.2⟩)
section
variable {P : Program} {w : World} {K : PySem.W.Frag} {mg : Str → Option Value} {base : Heap} {f : Addr} {fd : FuncData}
theorem has_law_expr (F : Fun K "_law_expr" "_law_expr" s__law_expr f fd) (hm : mg "_law_expr" = some (.ref f)) (B : Bi mg) (h1 : Has P w K mg base "_law_next" 1 2 RNext) (h2 : Has P w K mg base "_law_pick" 2 2 RPick) : ∀ k, Has P w K mg base "_law_expr" (k + 3) 4 (RExpr k)
  | 0 => has_law_expr_of F hm B h1 h2 0 fun j h => by omega
  | k + 1 => has_law_expr_of F hm B h1 h2 (k + 1) fun j h => by
    obtain rfl : k = j := by omega
    exact has_law_expr F hm B h1 h2 k
/-- frames of few names, one at least -/
structure FrS (fr : Fr) : Prop where
  ok : FrOk fr
  one : 1 ≤ fr.length
  asc : AscR fr
def HExpr (P : Program) (w : World) (K : PySem.W.Frag) (mg : Str → Option Value) (base : Heap) : Prop := ∀ (fr : Fr) (deep : Nat) (ol : Bool), FrS fr → HGen P w K mg base "_law_expr" (deep + 3) [frD fr, .int (deep : Int), .bl ol] fun d => ∃ e : Exp, EWf fr ol e ∧ e.depth ≤ deep ∧ d = e.D
def HCond (P : Program) (w : World) (K : PySem.W.Frag) (mg : Str → Option Value) (base : Heap) : Prop := ∀ (fr : Fr) (deep : Nat) (ol : Bool), FrS fr → HGen P w K mg base "_law_cond" (deep + 5) [frD fr, .int (deep : Int), .bl ol] fun d => ∃ c : Cnd, CWf fr ol c ∧ c.depth ≤ deep + 1 ∧ d = c.D
theorem gen_expr (h : ∀ k, Has P w K mg base "_law_expr" (k + 3) 4 (RExpr k)) : HExpr P w K mg base := fun fr deep ol hf => gen_of (h deep) rfl fun dr o0 p n hdr hw => by
  obtain ⟨z1, z2⟩ := exprG_wf (dr := dr) (ol := ol) hf.one deep n
  exact ⟨_, _, ⟨dr, o0, p, n, fr, deep, ol, hdr, hw, Nat.le_trans hf.ok.few (by decide), hf.one, Nat.le_refl _, rfl, rfl, rfl, rfl⟩, _, z1, z2, rfl⟩
theorem w_expr {X : Cx} {γ : Sto} {e : Expr} {es : List Expr} {pos p' : Pos} {dr : List Int} {o0 : Own} {p : Addr} {m : Nat} {Q : D → Own → Prop} {fr : Fr} {i : Int} {ol : Bool} (h : HExpr X.prog X.w X.K X.mg X.base) (hf : FrS fr) (hdr : DrOk dr) (hw : IsW o0 p)
    (ha : RA X (e :: es) γ (oW o0 p dr m) [.adr p, frD fr, .int i, .bl ol] (oW o0 p dr m)) (hi : 0 ≤ i) (hr : Room (i.toNat + 3) X.A) (q : ∀ (e : Exp) m, EWf fr ol e → e.depth ≤ i.toNat → Q e.D (oW o0 p dr m))
    (hg : Gl X "_law_expr" := by rfl) (he : starEach (e :: es) X.env = (false, eval e X.env) :: starEach es X.env := by rfl) (hpl : (backTo pos (starEach es X.env)).any (·.1) = false := by rfl) :
    REG X (.Call (.Name "_law_expr" p') (e :: es) [] pos) γ (oW o0 p dr m) Q := w_genR (h fr i.toNat ol hf) hdr hw hr ha (by rw [Int.toNat_of_nonneg hi]) (by rintro d m ⟨e, h1, h2, rfl⟩; exact q e m h1 h2) hg (by decide) he hpl
theorem w_cond {X : Cx} {γ : Sto} {e : Expr} {es : List Expr} {pos p' : Pos} {dr : List Int} {o0 : Own} {p : Addr} {m : Nat} {Q : D → Own → Prop} {fr : Fr} {i : Int} {ol : Bool} (h : HCond X.prog X.w X.K X.mg X.base) (hf : FrS fr) (hdr : DrOk dr) (hw : IsW o0 p)
    (ha : RA X (e :: es) γ (oW o0 p dr m) [.adr p, frD fr, .int i, .bl ol] (oW o0 p dr m)) (hi : 0 ≤ i) (hr : Room (i.toNat + 5) X.A) (q : ∀ (c : Cnd) m, CWf fr ol c → c.depth ≤ i.toNat + 1 → Q c.D (oW o0 p dr m))
    (hg : Gl X "_law_cond" := by rfl) (he : starEach (e :: es) X.env = (false, eval e X.env) :: starEach es X.env := by rfl) (hpl : (backTo pos (starEach es X.env)).any (·.1) = false := by rfl) :
    REG X (.Call (.Name "_law_cond" p') (e :: es) [] pos) γ (oW o0 p dr m) Q := w_genR (h fr i.toNat ol hf) hdr hw hr ha (by rw [Int.toNat_of_nonneg hi]) (by rintro d m ⟨e, h1, h2, rfl⟩; exact q e m h1 h2) hg (by decide) he hpl
local macro_rules | `(tactic| walk_at "call") => `(tactic| first
  | (refine w_next (by assumption) (by assumption) (by assumption) (Room.mono (by assumption) (by omega)) (by walk_at "ra") (by decide) ?_; intro j m hj)
  | (refine w_expr (by assumption) (by assumption) (by assumption) (by assumption) (by walk_at "ra") (by omega) (Room.mono (by assumption) (by omega)) ?_; intro e m he hd)
  | (refine w_genR (by assumption) (by assumption) (by assumption) (Room.mono (by assumption) (by omega)) (by walk_at "ra") (by walk_at "args") ?_; rintro d m ⟨e, he, hd, q⟩; subst q))
local macro_rules | `(tactic| walk_at "name") => `(tactic| first
  | ((with_reducible show REG _ (Expr.Name "w" _) _ _ _); refine w_val 0 rfl rfl (by walk_at "vis") ?_)
  | ((with_reducible show REG _ (Expr.Name "frame" _) _ _ _); refine w_val 1 rfl rfl (by walk_at "vis") ?_)
  | ((with_reducible show REG _ (Expr.Name "deep" _) _ _ _); refine w_val 2 rfl rfl (by walk_at "vis") ?_)
  | ((with_reducible show REG _ (Expr.Name "old" _) _ _ _); refine w_val 3 rfl rfl (by walk_at "vis") ?_)
  | ((with_reducible show REG _ (Expr.Name "kind" _) _ _ _); refine w_val 4 rfl rfl (by walk_at "vis") ?_))
local macro_rules | `(tactic| walk_at "set") => `(tactic| first
  | ((with_reducible show WS _ (Stmt.Assign [Expr.Name "w" _] _ _) _ _ _ _ _ _); refine ws_set 0 (by walk_at "nd") rfl (by walk_at "loc") ?_)
  | ((with_reducible show WS _ (Stmt.Assign [Expr.Name "frame" _] _ _) _ _ _ _ _ _); refine ws_set 1 (by walk_at "nd") rfl (by walk_at "loc") ?_)
  | ((with_reducible show WS _ (Stmt.Assign [Expr.Name "deep" _] _ _) _ _ _ _ _ _); refine ws_set 2 (by walk_at "nd") rfl (by walk_at "loc") ?_)
  | ((with_reducible show WS _ (Stmt.Assign [Expr.Name "old" _] _ _) _ _ _ _ _ _); refine ws_set 3 (by walk_at "nd") rfl (by walk_at "loc") ?_)
  | ((with_reducible show WS _ (Stmt.Assign [Expr.Name "kind" _] _ _) _ _ _ _ _ _); refine ws_set 4 (by walk_at "nd") rfl (by walk_at "loc") ?_))
local macro_rules | `(tactic| walk_at "var") => `(tactic| first
  | ((with_reducible show RE _ (Expr.Name "w" _) _ _ _ _); exact re_v 0 rfl rfl (by walk_at "vis"))
  | ((with_reducible show RE _ (Expr.Name "frame" _) _ _ _ _); exact re_v 1 rfl rfl (by walk_at "vis"))
  | ((with_reducible show RE _ (Expr.Name "deep" _) _ _ _ _); exact re_v 2 rfl rfl (by walk_at "vis"))
  | ((with_reducible show RE _ (Expr.Name "old" _) _ _ _ _); exact re_v 3 rfl rfl (by walk_at "vis"))
  | ((with_reducible show RE _ (Expr.Name "kind" _) _ _ _ _); exact re_v 4 rfl rfl (by walk_at "vis")))
theorem gen_cond (F : Fun K "_law_cond" "_law_cond" s__law_cond f fd) (hm : mg "_law_cond" = some (.ref f)) (B : Bi mg) (h1 : HNext P w K mg base) (h2 : HExpr P w K mg base) : HCond P w K mg base := by
  intro fr deep ol hf
  have end1 : ∀ {a b : Exp}, EWf fr ol a → a.depth ≤ 1 → EWf fr ol b → b.depth ≤ 1 → CWf fr ol (.same a b) := fun h1 h2 h3 h4 => ⟨⟨h1, by omega⟩, h3, by omega⟩
  have end2 : ∀ {k : Nat} {a b : Exp}, a.depth ≤ 1 → b.depth ≤ 1 → Nat.max a.depth b.depth ≤ k + 1 := fun h2 h4 => Nat.le_trans (Nat.max_le.mpr ⟨h2, h4⟩) (by omega)
  induction deep with
  | zero =>
    refine gen_mk F sc__law_cond hm (F.binds fun _ _ _ _ _ _ us hl => match us, hl with | [_, _, _, _], _ => rfl) rfl fun dr o0 p m hdr hw cdv A outer s0 H E hr hnd => ?_
    walk_at "go"
    · exact ⟨⟨_, rfl⟩, .truth _, trivial, Nat.zero_le _, rfl⟩
    all_goals rename_i a _ ha1 ha2 b _ hb1 hb2
    · exact ⟨⟨_, rfl⟩, .same a b, end1 ha1 ha2 hb1 hb2, end2 ha2 hb2, rfl⟩
    · exact ⟨⟨_, rfl⟩, .less a b, end1 ha1 ha2 hb1 hb2, end2 ha2 hb2, rfl⟩
    · exact ⟨⟨_, rfl⟩, .same a b, end1 ha1 ha2 hb1 hb2, end2 ha2 hb2, rfl⟩
    · exact ⟨⟨_, rfl⟩, .less a b, end1 ha1 ha2 hb1 hb2, end2 ha2 hb2, rfl⟩
  | succ deep ih =>
    refine gen_mk F sc__law_cond hm (F.binds fun _ _ _ _ _ _ us hl => match us, hl with | [_, _, _, _], _ => rfl) rfl fun dr o0 p m hdr hw cdv A outer s0 H E hr hnd => ?_
    walk_at "go"
    · rename_i c hc hd
      exact ⟨⟨_, rfl⟩, .not c, hc, Nat.succ_le_succ hd, rfl⟩
    · rename_i a ha ha2 _ b hb hb2
      exact ⟨⟨_, rfl⟩, .and a b, ⟨ha, hb⟩, Nat.succ_le_succ (Nat.max_le.mpr ⟨ha2, hb2⟩), rfl⟩
    · rename_i a ha ha2 _ b hb hb2
      exact ⟨⟨_, rfl⟩, .or a b, ⟨ha, hb⟩, Nat.succ_le_succ (Nat.max_le.mpr ⟨ha2, hb2⟩), rfl⟩
    · exact ⟨⟨_, rfl⟩, .truth _, trivial, Nat.zero_le _, rfl⟩
    all_goals rename_i a _ ha1 ha2 b _ hb1 hb2
    · exact ⟨⟨_, rfl⟩, .same a b, end1 ha1 ha2 hb1 hb2, end2 ha2 hb2, rfl⟩
    · exact ⟨⟨_, rfl⟩, .less a b, end1 ha1 ha2 hb1 hb2, end2 ha2 hb2, rfl⟩
    · exact ⟨⟨_, rfl⟩, .same a b, end1 ha1 ha2 hb1 hb2, end2 ha2 hb2, rfl⟩
    · exact ⟨⟨_, rfl⟩, .less a b, end1 ha1 ha2 hb1 hb2, end2 ha2 hb2, rfl⟩
end
end J
end

section
set_option Elab.async false
set_option maxHeartbeats 0
set_option linter.all false
set_option maxRecDepth 100000
/-! commands that are drawn -/
namespace J
open PySem PySem.Spec PyProof.Rows L2
local macro_rules | `(tactic| walk_at "vis") => `(tactic| first | exact Or.inl rfl | exact Or.inr (Or.inl rfl) | exact Or.inr (Or.inr rfl))
local macro_rules | `(tactic| walk_at "loc") => `(tactic| first | exact Or.inl rfl | exact Or.inr rfl)
local macro_rules | `(tactic| walk_at "var") => `(tactic| first
  | exact re_v 0 rfl rfl (by walk_at "vis") | exact re_v 1 rfl rfl (by walk_at "vis") | exact re_v 2 rfl rfl (by walk_at "vis") | exact re_v 3 rfl rfl (by walk_at "vis")
  | exact re_v 4 rfl rfl (by walk_at "vis") | exact re_v 5 rfl rfl (by walk_at "vis") | exact re_v 6 rfl rfl (by walk_at "vis") | exact re_v 7 rfl rfl (by walk_at "vis")
  | exact re_v 8 rfl rfl (by walk_at "vis") | exact re_v 9 rfl rfl (by walk_at "vis") | exact re_v 10 rfl rfl (by walk_at "vis") | exact re_v 11 rfl rfl (by walk_at "vis")
  | exact re_v 12 rfl rfl (by walk_at "vis") | exact re_v 13 rfl rfl (by walk_at "vis") | exact re_v 14 rfl rfl (by walk_at "vis") | exact re_v 15 rfl rfl (by walk_at "vis")
  | exact re_v 16 rfl rfl (by walk_at "vis") | exact re_v 17 rfl rfl (by walk_at "vis") | exact re_v 18 rfl rfl (by walk_at "vis") | exact re_v 19 rfl rfl (by walk_at "vis"))
local macro_rules | `(tactic| walk_at "ix") => `(tactic| first | exact ix_tupD rfl | exact ix_lstD rfl | exact ix_wtD rfl)
local macro_rules | `(tactic| walk_at "len") => `(tactic| first | exact Nat.le_of_ble_eq_true rfl | assumption | (simp; done) | (simp; omega))
local macro_rules | `(tactic| walk_at "ra") => `(tactic| first | ((with_reducible show RA _ [] _ _ _ _); exact ra_nil) | ((with_reducible show RA _ (_ :: _) _ _ _ _); exact ra_cons (by walk_at "ev") (by walk_at "ra")))
local macro_rules | `(tactic| walk_at "bin") => `(tactic| first | exact bin_addI | exact bin_subI | exact bin_addT (by walk_at "len") | exact bin_addL (by walk_at "len") | exact bin_mulI (Or.inr ⟨by decide, by decide⟩) | exact bin_mulI (Or.inl ⟨by decide, by decide⟩) | exact bin_modI (by decide) | exact bin_divW ⟨by decide, by decide⟩ | exact bin_pow ⟨by decide, by decide, by decide⟩)
local macro_rules | `(tactic| walk_at "ev") => `(tactic| first
  | ((with_reducible show RE _ (Expr.Name _ _) _ _ _ _); walk_at "var")
  | ((with_reducible show RE _ (Expr.Constant _ _ _) _ _ _ _); first | exact re_int | exact re_str | exact re_bl | exact re_non)
  | ((with_reducible show RE _ (Expr.Tuple _ _ _) _ _ _ _); exact re_tup (by walk_at "ra") (by walk_at "len"))
  | ((with_reducible show RE _ (Expr.List _ _) _ _ _ _); exact re_lst (by walk_at "ra") (by walk_at "len"))
  | ((with_reducible show RE _ (Expr.Subscript _ _ _) _ _ _ _); exact re_sub (by walk_at "ev") (by walk_at "ev") (by walk_at "ix"))
  | ((with_reducible show RE _ (Expr.BinOp _ _ _ _) _ _ _ _); exact re_bin (by walk_at "ev") (by walk_at "ev") (by walk_at "bin"))
  | assumption)
local macro_rules | `(tactic| walk_at "cmp") => `(tactic| first | exact cmp_ltI | exact cmp_leI | exact cmp_gtI | exact cmp_geI | exact cmp_eqI | exact cmp_neI | exact cmp_eqS | exact cmp_neS | exact cmp_eqB | exact cmp_neB | exact cmp_isNn | exact cmp_isNt | exact cmp_notNn | exact cmp_notNt | exact cmp_isN' | exact cmp_notN' | exact cmp_inSt (J.Room.u65 (by assumption)) .tup | exact cmp_inSt (J.Room.u65 (by assumption)) .lst | exact cmp_ninSt (J.Room.u65 (by assumption)) .tup | exact cmp_ninSt (J.Room.u65 (by assumption)) .lst | exact cmp_eqNil (J.Room.u0 (by assumption)) .lst | exact cmp_neNil (J.Room.u0 (by assumption)) .lst)
local macro_rules | `(tactic| walk_at "norm") => `(tactic| first | refine wb_as1 rfl ?_ | refine wb_as2 rfl ?_ | refine wb_as3 rfl ?_ | refine wb_as4 rfl ?_ | refine wb_as5 rfl ?_ | refine wb_as6 rfl ?_ | refine wb_as7 rfl ?_ | refine wb_as8 rfl ?_ | refine wb_as9 rfl ?_ | refine wb_as10 rfl ?_ | refine wb_as11 rfl ?_ | refine wb_as12 rfl ?_ | refine wb_as13 rfl ?_ | refine wb_as14 rfl ?_ | refine wb_as15 rfl ?_ | refine wb_as16 rfl ?_ | refine wb_as17 rfl ?_ | refine wb_as18 rfl ?_ | refine wb_as19 rfl ?_ | refine wb_as20 rfl ?_ | refine wb_as21 rfl ?_ | refine wb_as22 rfl ?_ | refine wb_as23 rfl ?_ | refine wb_as24 rfl ?_ | refine wb_as25 rfl ?_ | refine wb_as26 rfl ?_ | refine wb_as27 rfl ?_ | refine wb_as28 rfl ?_)
local macro_rules | `(tactic| walk_at "nd") => `(tactic| assumption)
local macro_rules | `(tactic| walk_at "blt") => `(tactic| first
  | ((with_reducible show REG _ (Expr.Call (Expr.Name "tuple" _) _ _ _) _ _ _); refine w_tuple (by assumption) ?_)
  | ((with_reducible show REG _ (Expr.Call (Expr.Name "len" _) _ _ _) _ _ _); refine w_len (by assumption) ?_)
  | ((with_reducible show REG _ (Expr.Call (Expr.Name "sorted" _) [Expr.Name _ _] _ _) _ _ _); refine w_sorted (by assumption) ?_)
  | ((with_reducible show REG _ (Expr.Call (Expr.Name "sorted" _) [Expr.BinOp _ _ _ _] _ _) _ _ _); refine w_sorted (by assumption) ?_)
  | ((with_reducible show REG _ (Expr.Call (Expr.Name "list" _) _ _ _) _ _ _); refine w_list (by assumption) ?_)
  | ((with_reducible show REG _ (Expr.Call (Expr.Name "dict" _) _ _ _) _ _ _); refine w_dict (by assumption) ?_)
  | ((with_reducible show REG _ (Expr.Call (Expr.Name "int" _) _ _ _) _ _ _); refine w_intB (by assumption) ?_)
  | ((with_reducible show REG _ (Expr.Call (Expr.Name "all" _) _ _ _) _ _ _); refine w_all (by assumption) ?_)
  | ((with_reducible show REG _ (Expr.Call (Expr.Name "any" _) _ _ _) _ _ _); refine w_any (by assumption) ?_)
  | ((with_reducible show REG _ (Expr.Call (Expr.Name "min" _) _ _ _) _ _ _); refine w_min (by assumption) ?_)
  | ((with_reducible show REG _ (Expr.Call (Expr.Name "max" _) _ _ _) _ _ _); refine w_max (by assumption) ?_)
  | ((with_reducible show REG _ (Expr.Call (Expr.Name "abs" _) _ _ _) _ _ _); refine w_abs (by assumption) ?_)
  | ((with_reducible show REG _ (Expr.Call (Expr.Name "isinstance" _) _ _ _) _ _ _); refine w_isi (by assumption) ?_)
  | ((with_reducible show REG _ (Expr.Call (Expr.Name "sum" _) _ _ _) _ _ _); refine w_sum (by assumption) ?_))
local macro_rules | `(tactic| walk_at "isi") => `(tactic| first
  | ((with_reducible show BltD _ _ _ [D.int _, _] _); first | exact isi_int_int | exact isi_int_bool | exact isi_int_str | exact isi_int_dict | exact isi_int_tuple | exact isi_int_list)
  | ((with_reducible show BltD _ _ _ [D.bl _, _] _); first | exact isi_bl_int | exact isi_bl_bool | exact isi_bl_str | exact isi_bl_dict | exact isi_bl_tuple | exact isi_bl_list)
  | ((with_reducible show BltD _ _ _ [D.str _, _] _); first | exact isi_str_int | exact isi_str_bool | exact isi_str_str | exact isi_str_dict | exact isi_str_tuple | exact isi_str_list)
  | ((with_reducible show BltD _ _ _ [D.non, _] _); first | exact isi_non_int | exact isi_non_bool | exact isi_non_str | exact isi_non_dict | exact isi_non_tuple | exact isi_non_list)
  | ((with_reducible show BltD _ _ _ [D.tup _, _] _); first | exact isi_tup_int | exact isi_tup_bool | exact isi_tup_str | exact isi_tup_dict | exact isi_tup_tuple | exact isi_tup_list)
  | ((with_reducible show BltD _ _ _ [D.lst _, _] _); first | exact isi_lst_int | exact isi_lst_bool | exact isi_lst_str | exact isi_lst_dict | exact isi_lst_tuple | exact isi_lst_list)
  | ((with_reducible show BltD _ _ _ [D.dT _, _] _); first | exact isi_dT_int | exact isi_dT_bool | exact isi_dT_str | exact isi_dT_dict | exact isi_dT_tuple | exact isi_dT_list)
  | ((with_reducible show BltD _ _ _ [D.dK _, _] _); first | exact isi_dK_int | exact isi_dK_bool | exact isi_dK_str | exact isi_dK_dict | exact isi_dK_tuple | exact isi_dK_list))
local macro_rules | `(tactic| walk_at "tyn") => `(tactic| first
  | ((with_reducible show REG _ (Expr.Name "int" _) _ _ _); refine w_ty_int (by assumption) ?_)
  | ((with_reducible show REG _ (Expr.Name "bool" _) _ _ _); refine w_ty_bool (by assumption) ?_)
  | ((with_reducible show REG _ (Expr.Name "str" _) _ _ _); refine w_ty_str (by assumption) ?_)
  | ((with_reducible show REG _ (Expr.Name "dict" _) _ _ _); refine w_ty_dict (by assumption) ?_)
  | ((with_reducible show REG _ (Expr.Name "tuple" _) _ _ _); refine w_ty_tuple (by assumption) ?_)
  | ((with_reducible show REG _ (Expr.Name "list" _) _ _ _); refine w_ty_list (by assumption) ?_))
local macro_rules | `(tactic| walk_at "args") => `(tactic| first | rfl | (simp only [List.cons.injEq, D.int.injEq, and_true, true_and]; omega))
local macro_rules | `(tactic| walk_at "call") => `(tactic| fail)
local macro_rules | `(tactic| walk_at "st1") => `(tactic| first
  | ((with_reducible show REG _ (Expr.Name _ _) _ _ _); first | walk_at "tyn" | walk_at "name")
  | ((with_reducible show REG _ (Expr.Constant _ _ _) _ _ _); first | refine w_int ?_ | refine w_str ?_ | refine w_bl ?_ | refine w_non ?_)
  | ((with_reducible show REG _ (Expr.Tuple _ _ _) _ _ _); refine w_tup ?_)
  | ((with_reducible show REG _ (Expr.List _ _) _ _ _); refine w_lst ?_)
  | ((with_reducible show REG _ (Expr.Subscript _ _ _) _ _ _); refine w_sub ?_)
  | ((with_reducible show REG _ (Expr.BinOp _ _ _ _) _ _ _); refine w_bin ?_)
  | ((with_reducible show REG _ (Expr.Compare _ _ _ _) _ _ _); refine w_cmp ?_)
  | ((with_reducible show REG _ (Expr.UnaryOp _ _ _) _ _ _); first | refine w_not ?_ | refine w_neg ?_)
  | ((with_reducible show REG _ (Expr.IfExp _ _ _ _) _ _ _); refine w_ifE ?_)
  | ((with_reducible show REG _ (Expr.BoolOp _ _ _) _ _ _); first | refine w_one ?_ | refine w_and ?_ | refine w_or ?_)
  | ((with_reducible show REG _ (Expr.Call (Expr.Attribute (Expr.Name _ _) "append" _) _ _ _) _ _ _); refine w_appendH (by assumption) (by walk_at "var") ?_)
  | ((with_reducible show _ = _ ∧ List.length _ ≤ 100000 ∧ _); refine ⟨rfl, by walk_at "len", ?_⟩)
  | ((with_reducible show REG _ (Expr.Call _ _ _ _) _ _ _); walk_at "call")
  | ((with_reducible show REG _ (Expr.Call (Expr.Name _ _) _ _ _) _ _ _); walk_at "blt")
  | ((with_reducible show ∃ d, BltD _ "len" _ _ d ∧ _); first | refine ⟨_, blt_len .tup, ?_⟩ | refine ⟨_, blt_len .lst, ?_⟩)
  | ((with_reducible show ∃ d, BltD _ "isinstance" _ _ d ∧ _); refine ⟨_, (by walk_at "isi"), ?_⟩)
  | ((with_reducible show ∃ d, BltD _ "abs" _ _ d ∧ _); refine ⟨_, blt_abs, ?_⟩)
  | ((with_reducible show ∃ d, TyD _ "int" _ _ d ∧ _); refine ⟨_, ty_int, ?_⟩)
  | ((with_reducible show ∃ d, TyD _ "tuple" _ _ d ∧ _); first | refine ⟨_, ty_tuple, ?_⟩ | refine ⟨_, ty_tupleT, ?_⟩)
  | ((with_reducible show RAG _ [] _ _ _); refine wa_nil ?_)
  | ((with_reducible show RAG _ (_ :: _) _ _ _); refine wa_cons ?_)
  | ((with_reducible show RTG _ (Expr.Compare _ _ _ _) _ _ _); refine wt_cmp ?_)
  | ((with_reducible show RTG _ (Expr.UnaryOp _ _ _) _ _ _); refine wt_not ?_)
  | ((with_reducible show RTG _ (Expr.BoolOp _ _ _) _ _ _); refine wt_w ?_)
  | ((with_reducible show RTG _ (Expr.Name _ _) _ _ _); refine wt_val ?_)
  | ((with_reducible show RTG _ (Expr.Call _ _ _ _) _ _ _); refine wt_val ?_)
  | ((with_reducible show RWG _ (Expr.BoolOp _ _ _) _ _ _); first | refine ww_and1 ?_ | refine ww_or1 ?_ | refine ww_and ?_ | refine ww_or ?_)
  | ((with_reducible show WS _ (Stmt.Assign [Expr.Name _ _] _ _) _ _ _ _ _ _); walk_at "set")
  | ((with_reducible show WS _ (Stmt.Return (some _) _) _ _ _ _ _ _); refine ws_ret ?_)
  | ((with_reducible show WS _ (Stmt.Return none _) _ _ _ _ _ _); refine ws_retN ?_)
  | ((with_reducible show WS _ (Stmt.Expr _ _) _ _ _ _ _ _); refine ws_expr ?_)
  | ((with_reducible show WS _ (Stmt.If _ _ _ _) _ _ _ _ _ _); refine ws_if ?_)
  | ((with_reducible show WS _ (Stmt.Pass _) _ _ _ _ _ _); refine ws_pass ?_)
  | ((with_reducible show WS _ (Stmt.Break _) _ _ _ _ _ _); refine ws_break ?_)
  | ((with_reducible show WS _ (Stmt.Continue _) _ _ _ _ _ _); refine ws_continue ?_)
  | ((with_reducible show WB _ _ (List.set _ _ _) _ _ _ _ _); walk_at "norm")
  | ((with_reducible show WB _ _ (startG _ _) _ _ _ _ _); walk_at "norm")
  | ((with_reducible show WB _ [] _ _ _ _ _ _); refine wb_nil ?_)
  | ((with_reducible show (List.length _ ≤ 100000 ∧ _)); refine ⟨by walk_at "len", ?_⟩)
  | refine ⟨_, (by walk_at "bin" : BinD _ _ _ _ _ _), ?_⟩
  | refine ⟨_, (by walk_at "cmp" : CmpD _ _ _ _ _ _), ?_⟩
  | refine ⟨_, (by walk_at "ix" : IxD _ _ _ _ _), ?_⟩
  | refine ix2 (by omega) (by omega) (fun h => ?_) (fun h => ?_)
  | refine ix3 (by omega) (by omega) (fun h => ?_) (fun h => ?_) (fun h => ?_)
  | ((with_reducible show ∃ k, (D.bl _ = D.bl k) ∧ _); refine ⟨_, rfl, ?_⟩)
  | ((with_reducible show ∃ k, (D.int _ = D.int k) ∧ _); refine ⟨_, rfl, ?_⟩)
  | ((with_reducible show (true = true → _) ∧ _); refine if_T ?_)
  | ((with_reducible show (false = true → _) ∧ _); refine if_F ?_)
  | ((with_reducible show ((!true) = true → _) ∧ _); refine if_NT ?_)
  | ((with_reducible show ((!false) = true → _) ∧ _); refine if_NF ?_)
  | ((with_reducible show (decide _ = true → _) ∧ _); refine if_dec (fun h => ?_) (fun h => ?_) <;> try (exfalso; first | omega | contradiction))
  | ((with_reducible show ((!decide _) = true → _) ∧ _); refine if_ndec (fun h => ?_) (fun h => ?_) <;> try (exfalso; first | omega | contradiction)))
local macro_rules | `(tactic| walk_at "st") => `(tactic| first | walk_at "st1" | ((show WB _ (_ :: _) _ _ _ _ _ _); refine wb_cons ?_))
local macro_rules | `(tactic| walk_at "cons") => `(tactic| ((show WB _ (_ :: _) _ _ _ _ _ _); refine wb_cons ?_))
local macro_rules | `(tactic| walk_at "go1") => `(tactic| repeat' walk_at "st1")
local macro_rules | `(tactic| walk_at "go") => `(tactic| repeat' walk_at "st")
theorem ewf_old {fr : Fr} {b : Bool} : ∀ {e : Exp}, EWf fr b e → EWf fr true e
  | .num _, h => h
  | .nam _, h => h
  | .old _, h => ⟨rfl, h.2⟩
  | .two _ a c, h => ⟨ewf_old (e := a) h.1, ewf_old (e := c) h.2⟩
theorem cwf_old {fr : Fr} {b : Bool} : ∀ {c : Cnd}, CWf fr b c → CWf fr true c
  | .truth _, h => h
  | .not c, h => cwf_old (c := c) h
  | .and a c, h => ⟨cwf_old (c := a) h.1, cwf_old (c := c) h.2⟩
  | .or a c, h => ⟨cwf_old (c := a) h.1, cwf_old (c := c) h.2⟩
  | .same _ _, h => ⟨⟨ewf_old h.1.1, h.1.2⟩, ewf_old h.2.1, h.2.2⟩
  | .less _ _, h => ⟨⟨ewf_old h.1.1, h.1.2⟩, ewf_old h.2.1, h.2.2⟩
/-! ### commands, well made -/
abbrev GenNm (x : Str) : Prop := x ∈ (["m", "n", "x", "y", "z", "zz"] : List Str)
structure VarWf (fr : Fr) (r : Row) : Prop where
  ok : VarOk fr r
  le : r.2.1 ≤ r.2.2
  nm : GenNm r.1
structure PrWf (fr : Fr) (ps : Prs) : Prop where
  sub : (ps.map (·.1)).Sublist (namesF fr)
  ne : ps ≠ []
  ok : ∀ p ∈ ps, EWf fr false p.2 ∧ p.2.depth ≤ 3
structure SpWf (k : Nat) (fr : Fr) (ns : List Str) (pre post : Cnd) : Prop where
  sub : ns.Sublist (namesF fr)
  pre : CWf fr false pre ∧ pre.depth ≤ k
  post : CWf fr true post ∧ post.depth ≤ k
mutual
def CmdWf (k : Nat) : Cmd → Fr → Prop
  | .skip, _ => True
  | .abort, _ => True
  | .magic, _ => True
  | .set ps, fr => PrWf fr ps
  | .spec ns pre post, fr => SpWf k fr ns pre post
  | .assert c, fr => CWf fr false c ∧ c.depth ≤ k
  | .assume c, fr => CWf fr false c ∧ c.depth ≤ k
  | .seq a b, fr => CmdWf k a fr ∧ CmdWf k b fr
  | .any a b, fr => CmdWf k a fr ∧ CmdWf k b fr
  | .var r b, fr => VarWf fr r ∧ CmdWf k b (insF r fr)
  | .ite a, fr => AltsWf k a fr ∧ 1 ≤ a.len ∧ a.len ≤ 100
  | .doo a, fr => AltsWf k a fr ∧ 1 ≤ a.len ∧ a.len ≤ 100
def AltsWf (k : Nat) : Alts → Fr → Prop
  | .nil, _ => True
  | .cons g c r, fr => (CWf fr false g ∧ g.depth ≤ k) ∧ CmdWf k c fr ∧ AltsWf k r fr
end
theorem oldNo {fr : Fr} {old : Option (List Int)} : OldIn fr false old := fun h => absurd h (by decide)
theorem oldYes {fr : Fr} {s : List Int} (h : s ∈ statesF fr) : OldIn fr true (some s) := fun _ => ⟨s, rfl, h⟩
theorem prwf_ok {fr : Fr} {ps : Prs} {k : Nat} (hk : 3 ≤ k) (hf : FrOk fr) (h : PrWf fr ps) : ∀ s ∈ statesF fr, POk fr ps s k := fun s hs =>
  ⟨fun p hp => ⟨ewf_ok hf hs oldNo (h.ok p hp).1 (h.ok p hp).2, Nat.le_trans (h.ok p hp).2 hk⟩, h.sub.nodup hf.one, by
    have z := h.sub.length_le
    have e : (namesF fr).length = fr.length := List.length_map _
    rw [List.length_map, e] at z
    exact Nat.le_trans z (Nat.le_trans hf.few (by decide))⟩
theorem spwf_ok {fr : Fr} {ns : List Str} {pre post : Cnd} {k : Nat} (hf : FrOk fr) (h : SpWf k fr ns pre post) : SpOk fr ns pre post k :=
  ⟨fun x hx => hf.named x (h.sub.subset hx), fun s hs => cwf_ok hf hs oldNo h.pre.1, fun s hs e he => cwf_ok hf he (oldYes hs) h.post.1, h.pre.2, h.post.2⟩
theorem cndwf_ok {fr : Fr} {c : Cnd} {k : Nat} (hf : FrOk fr) (h : CWf fr false c ∧ c.depth ≤ k) : CndOk k fr c := ⟨fun s hs => cwf_ok hf hs oldNo h.1, h.2⟩
mutual
theorem cmdwf_ok {k : Nat} (hk : 3 ≤ k) : ∀ {c : Cmd} {fr : Fr}, FrOk fr → CmdWf k c fr → CmdOk k c fr
  | .skip, fr, _, _ => by rw [CmdOk]; trivial
  | .abort, fr, _, _ => by rw [CmdOk]; trivial
  | .magic, fr, _, _ => by rw [CmdOk]; trivial
  | .set ps, fr, hf, h => by rw [CmdWf] at h; rw [CmdOk]; exact prwf_ok hk hf h
  | .spec ns pre post, fr, hf, h => by rw [CmdWf] at h; rw [CmdOk]; exact spwf_ok hf h
  | .assert c, fr, hf, h => by rw [CmdWf] at h; rw [CmdOk]; exact cndwf_ok hf h
  | .assume c, fr, hf, h => by rw [CmdWf] at h; rw [CmdOk]; exact cndwf_ok hf h
  | .seq a b, fr, hf, h => by rw [CmdWf] at h; rw [CmdOk]; exact ⟨cmdwf_ok hk hf h.1, cmdwf_ok hk hf h.2⟩
  | .any a b, fr, hf, h => by rw [CmdWf] at h; rw [CmdOk]; exact ⟨cmdwf_ok hk hf h.1, cmdwf_ok hk hf h.2⟩
  | .var r b, fr, hf, h => by rw [CmdWf] at h; rw [CmdOk]; exact ⟨h.1.ok, cmdwf_ok hk h.1.ok.inn h.2⟩
  | .ite a, fr, hf, h => by rw [CmdWf] at h; rw [CmdOk]; exact ⟨altswf_ok hk hf h.1, h.2.2⟩
  | .doo a, fr, hf, h => by rw [CmdWf] at h; rw [CmdOk]; exact ⟨altswf_ok hk hf h.1, h.2.2⟩
theorem altswf_ok {k : Nat} (hk : 3 ≤ k) : ∀ {a : Alts} {fr : Fr}, FrOk fr → AltsWf k a fr → AltsOk k a fr
  | .nil, fr, _, _ => by rw [AltsOk]; trivial
  | .cons g c r, fr, hf, h => by rw [AltsWf] at h; rw [AltsOk]; exact ⟨cndwf_ok hf h.1, cmdwf_ok hk hf h.2.1, altswf_ok hk hf h.2.2⟩
end
section
variable {P : Program} {w : World} {K : PySem.W.Frag} {mg : Str → Option Value} {base : Heap} {f : Addr} {fd : FuncData}
def HSome (P : Program) (w : World) (K : PySem.W.Frag) (mg : Str → Option Value) (base : Heap) : Prop := ∀ fr : Fr, FrS fr → HGen P w K mg base "_law_some" 2 [frD fr] fun d => ∃ ns : List Str, ns.Sublist (namesF fr) ∧ ns ≠ [] ∧ d = .tup (ns.map .str)
def HPairs (P : Program) (w : World) (K : PySem.W.Frag) (mg : Str → Option Value) (base : Heap) : Prop := ∀ fr : Fr, FrS fr → HGen P w K mg base "_law_pairs" 5 [frD fr] fun d => ∃ ps : Prs, PrWf fr ps ∧ d = prsD ps
def HSpec (P : Program) (w : World) (K : PySem.W.Frag) (mg : Str → Option Value) (base : Heap) : Prop := ∀ fr : Fr, FrS fr → HGen P w K mg base "_law_spec" 8 [frD fr] fun d => ∃ ns pre post, SpWf 3 fr ns pre post ∧ d = (Cmd.spec ns pre post).D
def HCount (P : Program) (w : World) (K : PySem.W.Frag) (mg : Str → Option Value) (base : Heap) : Prop := ∀ fr : Fr, FrS fr → HGen P w K mg base "_law_count" 3 [frD fr] fun d => ∃ c : Cmd, CmdWf 3 c fr ∧ c.depth ≤ 1 ∧ d = c.D
theorem gen_some (h : Has P w K mg base "_law_some" 2 2 RSome) : HSome P w K mg base := fun fr hf => gen_of h rfl fun dr o0 p n hdr hw => by
  refine ⟨_, _, ⟨dr, o0, p, n, fr, hdr, hw, Nat.le_trans hf.ok.few (by decide), hf.one, rfl, rfl, rfl, rfl⟩, _, someG_sub dr fr n, ?_, rfl⟩
  unfold someG
  split
  · intro e
    have z := congrArg List.length e
    have l1 : (namesF fr).length = fr.length := List.length_map _
    have l2 := hf.one
    rw [List.length_take, List.length_nil] at z
    omega
  · rename_i c
    intro e
    rw [e] at c
    exact c rfl
theorem w_some {X : Cx} {γ : Sto} {e : Expr} {es : List Expr} {pos p' : Pos} {dr : List Int} {o0 : Own} {p : Addr} {m : Nat} {Q : D → Own → Prop} {fr : Fr} (h : HSome X.prog X.w X.K X.mg X.base) (hf : FrS fr) (hdr : DrOk dr) (hw : IsW o0 p)
    (ha : RA X (e :: es) γ (oW o0 p dr m) [.adr p, frD fr] (oW o0 p dr m)) (hr : Room 2 X.A) (q : ∀ (ns : List Str) m, ns.Sublist (namesF fr) → ns ≠ [] → Q (.tup (ns.map .str)) (oW o0 p dr m))
    (hg : Gl X "_law_some" := by rfl) (he : starEach (e :: es) X.env = (false, eval e X.env) :: starEach es X.env := by rfl) (hpl : (backTo pos (starEach es X.env)).any (·.1) = false := by rfl) :
    REG X (.Call (.Name "_law_some" p') (e :: es) [] pos) γ (oW o0 p dr m) Q := w_genR (h fr hf) hdr hw hr ha rfl (by rintro d m ⟨ns, h1, h2, rfl⟩; exact q ns m h1 h2) hg (by decide) he hpl
local macro_rules | `(tactic| walk_at "call") => `(tactic| first
  | (refine w_expr (by assumption) (by assumption) (by assumption) (by assumption) (by walk_at "ra") (by omega) (Room.mono (by assumption) (by omega)) ?_; intro e m he hd))
local macro_rules | `(tactic| walk_at "name") => `(tactic| first
  | ((with_reducible show REG _ (Expr.Name "w" _) _ _ _); refine w_val 0 rfl rfl (by walk_at "vis") ?_)
  | ((with_reducible show REG _ (Expr.Name "frame" _) _ _ _); refine w_val 1 rfl rfl (by walk_at "vis") ?_)
  | ((with_reducible show REG _ (Expr.Name "name" _) _ _ _); refine w_val 2 rfl rfl (by walk_at "vis") ?_))
local macro_rules | `(tactic| walk_at "set") => `(tactic| first
  | ((with_reducible show WS _ (Stmt.Assign [Expr.Name "w" _] _ _) _ _ _ _ _ _); refine ws_set 0 (by walk_at "nd") rfl (by walk_at "loc") ?_)
  | ((with_reducible show WS _ (Stmt.Assign [Expr.Name "frame" _] _ _) _ _ _ _ _ _); refine ws_set 1 (by walk_at "nd") rfl (by walk_at "loc") ?_)
  | ((with_reducible show WS _ (Stmt.Assign [Expr.Name "name" _] _ _) _ _ _ _ _ _); refine ws_set 2 (by walk_at "nd") rfl (by walk_at "loc") ?_))
local macro_rules | `(tactic| walk_at "var") => `(tactic| first
  | ((with_reducible show RE _ (Expr.Name "w" _) _ _ _ _); exact re_v 0 rfl rfl (by walk_at "vis"))
  | ((with_reducible show RE _ (Expr.Name "frame" _) _ _ _ _); exact re_v 1 rfl rfl (by walk_at "vis"))
  | ((with_reducible show RE _ (Expr.Name "name" _) _ _ _ _); exact re_v 2 rfl rfl (by walk_at "vis")))
theorem gen_pairs (F : Fun K "_law_pairs" "_law_pairs" s__law_pairs f fd) (hm : mg "_law_pairs" = some (.ref f)) (B : Bi mg) (h1 : HSome P w K mg base) (h2 : HExpr P w K mg base) : HPairs P w K mg base := fun fr hf => by
  refine gen_mk F sc__law_pairs hm (F.binds fun _ _ _ _ _ _ us hl => match us, hl with | [_, _], _ => rfl) rfl fun dr o0 p m hdr hw cdv A outer s0 H E hr hnd => ?_
  walk_at "go"
  refine w_l (wl_lcE [("name", 2)] rfl hnd (blkOk_by (N := n__law_pairs) (sc := defScope s__law_pairs) (by decide +kernel)) (wi_tup (w_some h1 hf hdr hw (by walk_at "ra") (hr.mono (by omega)) fun ns m2 hs hne => ⟨_, rfl, ?_⟩)))
  refine lcp_map (fun i acc o' => (∃ m, o' = oW o0 p dr m) ∧ ∃ ps : Prs, ps.map (·.1) = ns.take i ∧ (∀ q ∈ ps, EWf fr false q.2 ∧ q.2.depth ≤ 3) ∧ acc = ps.map fun q => D.tup [.str q.1, q.2.D]) ⟨⟨m2, rfl⟩, [], rfl, (fun q hq => nomatch hq), rfl⟩ ?_ ?_ ?_
  · have z := hs.length_le
    rw [show (namesF fr).length = fr.length from List.length_map _] at z
    have := hf.ok.few
    rw [List.length_map]; omega
  · rintro i a acc o' ha ⟨⟨m3, rfl⟩, ps, e1, e2, rfl⟩
    obtain ⟨x, hx, rfl⟩ := map_at ha
    refine ⟨_, _, ?_, fun q => rg_name 2 hnd rfl (by walk_at "loc"), fun q => ?_⟩
    · decide
    walk_at "go"
    rename_i e _ h1 h2
    refine ⟨⟨_, rfl⟩, ps ++ [(x, e)], ?_, ?_, ?_⟩
    · rw [List.take_succ, hx, List.map_append, e1]; rfl
    · intro q hq
      rcases List.mem_append.mp hq with hq | hq
      · exact e2 q hq
      · rw [List.mem_singleton.mp hq]; exact ⟨h1, Nat.le_trans h2 (by decide)⟩
    · rw [List.map_append]; rfl
  · rintro acc o' ⟨⟨m3, rfl⟩, ps, e1, e2, rfl⟩
    walk_at "go"
    rw [List.length_map, List.take_length] at e1
    exact ⟨⟨_, rfl⟩, ps, ⟨e1 ▸ hs, fun h => hne (by rw [← e1, h]; rfl), e2⟩, rfl⟩
theorem w_pairs {X : Cx} {γ : Sto} {e : Expr} {es : List Expr} {pos p' : Pos} {dr : List Int} {o0 : Own} {p : Addr} {m : Nat} {Q : D → Own → Prop} {fr : Fr} (h : HPairs X.prog X.w X.K X.mg X.base) (hf : FrS fr) (hdr : DrOk dr) (hw : IsW o0 p)
    (ha : RA X (e :: es) γ (oW o0 p dr m) [.adr p, frD fr] (oW o0 p dr m)) (hr : Room 5 X.A) (q : ∀ (ps : Prs) m, PrWf fr ps → Q (prsD ps) (oW o0 p dr m))
    (hg : Gl X "_law_pairs" := by rfl) (he : starEach (e :: es) X.env = (false, eval e X.env) :: starEach es X.env := by rfl) (hpl : (backTo pos (starEach es X.env)).any (·.1) = false := by rfl) :
    REG X (.Call (.Name "_law_pairs" p') (e :: es) [] pos) γ (oW o0 p dr m) Q := w_genR (h fr hf) hdr hw hr ha rfl (by rintro d m ⟨ns, h1, rfl⟩; exact q ns m h1) hg (by decide) he hpl
theorem w_spec {X : Cx} {γ : Sto} {e : Expr} {es : List Expr} {pos p' : Pos} {dr : List Int} {o0 : Own} {p : Addr} {m : Nat} {Q : D → Own → Prop} {fr : Fr} (h : HSpec X.prog X.w X.K X.mg X.base) (hf : FrS fr) (hdr : DrOk dr) (hw : IsW o0 p)
    (ha : RA X (e :: es) γ (oW o0 p dr m) [.adr p, frD fr] (oW o0 p dr m)) (hr : Room 8 X.A) (q : ∀ ns pre post m, SpWf 3 fr ns pre post → Q (Cmd.spec ns pre post).D (oW o0 p dr m))
    (hg : Gl X "_law_spec" := by rfl) (he : starEach (e :: es) X.env = (false, eval e X.env) :: starEach es X.env := by rfl) (hpl : (backTo pos (starEach es X.env)).any (·.1) = false := by rfl) :
    REG X (.Call (.Name "_law_spec" p') (e :: es) [] pos) γ (oW o0 p dr m) Q := w_genR (h fr hf) hdr hw hr ha rfl (by rintro d m ⟨ns, pre, post, h1, rfl⟩; exact q ns pre post m h1) hg (by decide) he hpl
theorem w_count {X : Cx} {γ : Sto} {e : Expr} {es : List Expr} {pos p' : Pos} {dr : List Int} {o0 : Own} {p : Addr} {m : Nat} {Q : D → Own → Prop} {fr : Fr} (h : HCount X.prog X.w X.K X.mg X.base) (hf : FrS fr) (hdr : DrOk dr) (hw : IsW o0 p)
    (ha : RA X (e :: es) γ (oW o0 p dr m) [.adr p, frD fr] (oW o0 p dr m)) (hr : Room 3 X.A) (q : ∀ c m, CmdWf 3 c fr → c.depth ≤ 1 → Q c.D (oW o0 p dr m))
    (hg : Gl X "_law_count" := by rfl) (he : starEach (e :: es) X.env = (false, eval e X.env) :: starEach es X.env := by rfl) (hpl : (backTo pos (starEach es X.env)).any (·.1) = false := by rfl) :
    REG X (.Call (.Name "_law_count" p') (e :: es) [] pos) γ (oW o0 p dr m) Q := w_genR (h fr hf) hdr hw hr ha rfl (by rintro d m ⟨c, h1, h2, rfl⟩; exact q c m h1 h2) hg (by decide) he hpl
local macro_rules | `(tactic| walk_at "call") => `(tactic| first
  | (refine w_next (by assumption) (by assumption) (by assumption) (Room.mono (by assumption) (by omega)) (by walk_at "ra") (by decide) ?_; intro j m hj)
  | (refine w_expr (by assumption) (by assumption) (by assumption) (by assumption) (by walk_at "ra") (by omega) (Room.mono (by assumption) (by omega)) ?_; intro e m he hd)
  | (refine w_cond (by assumption) (by assumption) (by assumption) (by assumption) (by walk_at "ra") (by omega) (Room.mono (by assumption) (by omega)) ?_; intro c m hc hd)
  | (refine w_some (by assumption) (by assumption) (by assumption) (by assumption) (by walk_at "ra") (Room.mono (by assumption) (by omega)) ?_; intro ns m hs hne)
  | (refine w_pairs (by assumption) (by assumption) (by assumption) (by assumption) (by walk_at "ra") (Room.mono (by assumption) (by omega)) ?_; intro ps m hps)
  | (refine w_spec (by assumption) (by assumption) (by assumption) (by assumption) (by walk_at "ra") (Room.mono (by assumption) (by omega)) ?_; intro ns pre post m hsp)
  | (refine w_count (by assumption) (by assumption) (by assumption) (by assumption) (by walk_at "ra") (Room.mono (by assumption) (by omega)) ?_; intro c m hc hd))
local macro_rules | `(tactic| walk_at "name") => `(tactic| first
  | ((with_reducible show REG _ (Expr.Name "w" _) _ _ _); refine w_val 0 rfl rfl (by walk_at "vis") ?_)
  | ((with_reducible show REG _ (Expr.Name "frame" _) _ _ _); refine w_val 1 rfl rfl (by walk_at "vis") ?_)
  | ((with_reducible show REG _ (Expr.Name "pre" _) _ _ _); refine w_val 2 rfl rfl (by walk_at "vis") ?_))
local macro_rules | `(tactic| walk_at "set") => `(tactic| first
  | ((with_reducible show WS _ (Stmt.Assign [Expr.Name "w" _] _ _) _ _ _ _ _ _); refine ws_set 0 (by walk_at "nd") rfl (by walk_at "loc") ?_)
  | ((with_reducible show WS _ (Stmt.Assign [Expr.Name "frame" _] _ _) _ _ _ _ _ _); refine ws_set 1 (by walk_at "nd") rfl (by walk_at "loc") ?_)
  | ((with_reducible show WS _ (Stmt.Assign [Expr.Name "pre" _] _ _) _ _ _ _ _ _); refine ws_set 2 (by walk_at "nd") rfl (by walk_at "loc") ?_))
local macro_rules | `(tactic| walk_at "var") => `(tactic| first
  | ((with_reducible show RE _ (Expr.Name "w" _) _ _ _ _); exact re_v 0 rfl rfl (by walk_at "vis"))
  | ((with_reducible show RE _ (Expr.Name "frame" _) _ _ _ _); exact re_v 1 rfl rfl (by walk_at "vis"))
  | ((with_reducible show RE _ (Expr.Name "pre" _) _ _ _ _); exact re_v 2 rfl rfl (by walk_at "vis")))
theorem gen_spec (F : Fun K "_law_spec" "_law_spec" s__law_spec f fd) (hm : mg "_law_spec" = some (.ref f)) (B : Bi mg) (h1 : HNext P w K mg base) (h2 : HCond P w K mg base) (h3 : HSome P w K mg base) : HSpec P w K mg base := fun fr hf => by
  refine gen_mk F sc__law_spec hm (F.binds fun _ _ _ _ _ _ us hl => match us, hl with | [_, _], _ => rfl) rfl fun dr o0 p m hdr hw cdv A outer s0 H E hr hnd => ?_
  walk_at "go"
  · rename_i ns m3 hns hne
    refine w_genL (h2 fr 2 true hf) hdr hw ?_
    walk_at "go"
    rename_i j m4 hj
    refine ⟨_, _, _, h2 fr 2 (decide ((j : Int) = 0)) hf, hr.mono (by omega), rfl, ⟨_, rfl⟩, ?_⟩
    rintro d m5 ⟨c, hc, hd, rfl⟩
    walk_at "go"
    exact ⟨⟨_, rfl⟩, ns, .truth true, c, ⟨hns, ⟨trivial, Nat.zero_le _⟩, cwf_old hc, hd⟩, rfl⟩
  · rename_i c0 m2 hc0 hd0 ns m3 hns hne
    refine w_genL (h2 fr 2 true hf) hdr hw ?_
    walk_at "go"
    rename_i j m4 hj
    refine ⟨_, _, _, h2 fr 2 (decide ((j : Int) = 0)) hf, hr.mono (by omega), rfl, ⟨_, rfl⟩, ?_⟩
    rintro d m5 ⟨c, hc, hd, rfl⟩
    walk_at "go"
    exact ⟨⟨_, rfl⟩, ns, c0, c, ⟨hns, ⟨hc0, Nat.le_trans hd0 (by decide)⟩, cwf_old hc, hd⟩, rfl⟩
local macro_rules | `(tactic| walk_at "name") => `(tactic| first
  | ((with_reducible show REG _ (Expr.Name "w" _) _ _ _); refine w_val 0 rfl rfl (by walk_at "vis") ?_)
  | ((with_reducible show REG _ (Expr.Name "frame" _) _ _ _); refine w_val 1 rfl rfl (by walk_at "vis") ?_)
  | ((with_reducible show REG _ (Expr.Name "name" _) _ _ _); refine w_val 2 rfl rfl (by walk_at "vis") ?_)
  | ((with_reducible show REG _ (Expr.Name "low" _) _ _ _); refine w_val 3 rfl rfl (by walk_at "vis") ?_)
  | ((with_reducible show REG _ (Expr.Name "high" _) _ _ _); refine w_val 4 rfl rfl (by walk_at "vis") ?_))
local macro_rules | `(tactic| walk_at "set") => `(tactic| first
  | ((with_reducible show WS _ (Stmt.Assign [Expr.Name "w" _] _ _) _ _ _ _ _ _); refine ws_set 0 (by walk_at "nd") rfl (by walk_at "loc") ?_)
  | ((with_reducible show WS _ (Stmt.Assign [Expr.Name "frame" _] _ _) _ _ _ _ _ _); refine ws_set 1 (by walk_at "nd") rfl (by walk_at "loc") ?_)
  | ((with_reducible show WS _ (Stmt.Assign [Expr.Name "name" _] _ _) _ _ _ _ _ _); refine ws_set 2 (by walk_at "nd") rfl (by walk_at "loc") ?_)
  | ((with_reducible show WS _ (Stmt.Assign [Expr.Name "low" _] _ _) _ _ _ _ _ _); refine ws_set 3 (by walk_at "nd") rfl (by walk_at "loc") ?_)
  | ((with_reducible show WS _ (Stmt.Assign [Expr.Name "high" _] _ _) _ _ _ _ _ _); refine ws_set 4 (by walk_at "nd") rfl (by walk_at "loc") ?_))
local macro_rules | `(tactic| walk_at "var") => `(tactic| first
  | ((with_reducible show RE _ (Expr.Name "w" _) _ _ _ _); exact re_v 0 rfl rfl (by walk_at "vis"))
  | ((with_reducible show RE _ (Expr.Name "frame" _) _ _ _ _); exact re_v 1 rfl rfl (by walk_at "vis"))
  | ((with_reducible show RE _ (Expr.Name "name" _) _ _ _ _); exact re_v 2 rfl rfl (by walk_at "vis"))
  | ((with_reducible show RE _ (Expr.Name "low" _) _ _ _ _); exact re_v 3 rfl rfl (by walk_at "vis"))
  | ((with_reducible show RE _ (Expr.Name "high" _) _ _ _ _); exact re_v 4 rfl rfl (by walk_at "vis")))
theorem gen_count (F : Fun K "_law_count" "_law_count" s__law_count f fd) (hm : mg "_law_count" = some (.ref f)) (B : Bi mg) (h1 : HNext P w K mg base) (h2 : HPick P w K mg base) : HCount P w K mg base := fun fr hf => by
  refine gen_mk F sc__law_count hm (F.binds fun _ _ _ _ _ _ us hl => match us, hl with | [_, _], _ => rfl) rfl fun dr o0 p m hdr hw cdv A outer s0 H E hr hnd => ?_
  walk_at "go"
  refine ws_unp (w_genR (h2 (fr.map rowD) (frD fr) (by rw [List.length_map]; exact hf.one) (.inl rfl)) hdr hw (hr.mono (by omega)) (by walk_at "ra") rfl fun d m2 hd => ?_)
  obtain ⟨r, hr2, rfl⟩ := List.mem_map.mp hd
  have hx : r.1 ∈ namesF fr := List.mem_map_of_mem hr2
  have hn := hf.ok.nums r hr2
  refine ⟨_, _, rg_tup rfl (rgs_cons (rg_name 2 hnd rfl (by walk_at "loc")) (rgs_cons (rg_name 3 hnd rfl (by walk_at "loc")) (rgs_cons (rg_name 4 hnd rfl (by walk_at "loc")) rgs_nil))), ?_⟩
  walk_at "go"
  · refine ⟨⟨_, rfl⟩, .doo (.cons (.less (.nam r.1) (.num r.2.2)) (.set [(r.1, .two .add (.nam r.1) (.num 1))]) .nil), ?_, Nat.le_refl _, rfl⟩
    rw [CmdWf, AltsWf, CmdWf, AltsWf]
    exact ⟨⟨⟨⟨⟨hx, Nat.zero_le _⟩, ⟨by omega, by omega⟩, Nat.zero_le _⟩, Nat.zero_le _⟩, ⟨List.singleton_sublist.mpr hx, by simp, fun q hq => by rw [List.mem_singleton.mp hq]; exact ⟨⟨hx, by decide, by decide⟩, Nat.le_of_ble_eq_true rfl⟩⟩, trivial⟩, Nat.le_refl _, Nat.le_of_ble_eq_true rfl⟩
  · refine ⟨⟨_, rfl⟩, .doo (.cons (.less (.num r.2.1) (.nam r.1)) (.set [(r.1, .two .sub (.nam r.1) (.num 1))]) .nil), ?_, Nat.le_refl _, rfl⟩
    rw [CmdWf, AltsWf, CmdWf, AltsWf]
    exact ⟨⟨⟨⟨⟨⟨by omega, by omega⟩, Nat.zero_le _⟩, hx, Nat.zero_le _⟩, Nat.zero_le _⟩, ⟨List.singleton_sublist.mpr hx, by simp, fun q hq => by rw [List.mem_singleton.mp hq]; exact ⟨⟨hx, by decide, by decide⟩, Nat.le_of_ble_eq_true rfl⟩⟩, trivial⟩, Nat.le_refl _, Nat.le_of_ble_eq_true rfl⟩
end
end J
end

section
set_option Elab.async false
set_option maxHeartbeats 0
set_option linter.all false
set_option maxRecDepth 100000
/-! _law_command -/
namespace J
open PySem PySem.Spec PyProof.Rows L2
local macro_rules | `(tactic| walk_at "vis") => `(tactic| first | exact Or.inl rfl | exact Or.inr (Or.inl rfl) | exact Or.inr (Or.inr rfl))
local macro_rules | `(tactic| walk_at "loc") => `(tactic| first | exact Or.inl rfl | exact Or.inr rfl)
local macro_rules | `(tactic| walk_at "var") => `(tactic| first
  | exact re_v 0 rfl rfl (by walk_at "vis") | exact re_v 1 rfl rfl (by walk_at "vis") | exact re_v 2 rfl rfl (by walk_at "vis") | exact re_v 3 rfl rfl (by walk_at "vis")
  | exact re_v 4 rfl rfl (by walk_at "vis") | exact re_v 5 rfl rfl (by walk_at "vis") | exact re_v 6 rfl rfl (by walk_at "vis") | exact re_v 7 rfl rfl (by walk_at "vis")
  | exact re_v 8 rfl rfl (by walk_at "vis") | exact re_v 9 rfl rfl (by walk_at "vis") | exact re_v 10 rfl rfl (by walk_at "vis") | exact re_v 11 rfl rfl (by walk_at "vis")
  | exact re_v 12 rfl rfl (by walk_at "vis") | exact re_v 13 rfl rfl (by walk_at "vis") | exact re_v 14 rfl rfl (by walk_at "vis") | exact re_v 15 rfl rfl (by walk_at "vis")
  | exact re_v 16 rfl rfl (by walk_at "vis") | exact re_v 17 rfl rfl (by walk_at "vis") | exact re_v 18 rfl rfl (by walk_at "vis") | exact re_v 19 rfl rfl (by walk_at "vis"))
local macro_rules | `(tactic| walk_at "ix") => `(tactic| first | exact ix_tupD rfl | exact ix_lstD rfl | exact ix_wtD rfl)
local macro_rules | `(tactic| walk_at "len") => `(tactic| first | exact Nat.le_of_ble_eq_true rfl | assumption | (simp; done) | (simp; omega))
local macro_rules | `(tactic| walk_at "ra") => `(tactic| first | ((with_reducible show RA _ [] _ _ _ _); exact ra_nil) | ((with_reducible show RA _ (_ :: _) _ _ _ _); exact ra_cons (by walk_at "ev") (by walk_at "ra")))
local macro_rules | `(tactic| walk_at "bin") => `(tactic| first | exact bin_addI | exact bin_subI | exact bin_addT (by walk_at "len") | exact bin_addL (by walk_at "len") | exact bin_mulI (Or.inr ⟨by decide, by decide⟩) | exact bin_mulI (Or.inl ⟨by decide, by decide⟩) | exact bin_modI (by decide) | exact bin_divW ⟨by decide, by decide⟩ | exact bin_pow ⟨by decide, by decide, by decide⟩)
local macro_rules | `(tactic| walk_at "ev") => `(tactic| first
  | ((with_reducible show RE _ (Expr.Name _ _) _ _ _ _); walk_at "var")
  | ((with_reducible show RE _ (Expr.Constant _ _ _) _ _ _ _); first | exact re_int | exact re_str | exact re_bl | exact re_non)
  | ((with_reducible show RE _ (Expr.Tuple _ _ _) _ _ _ _); exact re_tup (by walk_at "ra") (by walk_at "len"))
  | ((with_reducible show RE _ (Expr.List _ _) _ _ _ _); exact re_lst (by walk_at "ra") (by walk_at "len"))
  | ((with_reducible show RE _ (Expr.Subscript _ _ _) _ _ _ _); exact re_sub (by walk_at "ev") (by walk_at "ev") (by walk_at "ix"))
  | ((with_reducible show RE _ (Expr.BinOp _ _ _ _) _ _ _ _); exact re_bin (by walk_at "ev") (by walk_at "ev") (by walk_at "bin"))
  | assumption)
local macro_rules | `(tactic| walk_at "cmp") => `(tactic| first | exact cmp_ltI | exact cmp_leI | exact cmp_gtI | exact cmp_geI | exact cmp_eqI | exact cmp_neI | exact cmp_eqS | exact cmp_neS | exact cmp_eqB | exact cmp_neB | exact cmp_isNn | exact cmp_isNt | exact cmp_notNn | exact cmp_notNt | exact cmp_isN' | exact cmp_notN' | exact cmp_inSt (J.Room.u65 (by assumption)) .tup | exact cmp_inSt (J.Room.u65 (by assumption)) .lst | exact cmp_ninSt (J.Room.u65 (by assumption)) .tup | exact cmp_ninSt (J.Room.u65 (by assumption)) .lst | exact cmp_eqNil (J.Room.u0 (by assumption)) .lst | exact cmp_neNil (J.Room.u0 (by assumption)) .lst)
local macro_rules | `(tactic| walk_at "norm") => `(tactic| first | refine wb_as1 rfl ?_ | refine wb_as2 rfl ?_ | refine wb_as3 rfl ?_ | refine wb_as4 rfl ?_ | refine wb_as5 rfl ?_ | refine wb_as6 rfl ?_ | refine wb_as7 rfl ?_ | refine wb_as8 rfl ?_ | refine wb_as9 rfl ?_ | refine wb_as10 rfl ?_ | refine wb_as11 rfl ?_ | refine wb_as12 rfl ?_ | refine wb_as13 rfl ?_ | refine wb_as14 rfl ?_ | refine wb_as15 rfl ?_ | refine wb_as16 rfl ?_ | refine wb_as17 rfl ?_ | refine wb_as18 rfl ?_ | refine wb_as19 rfl ?_ | refine wb_as20 rfl ?_ | refine wb_as21 rfl ?_ | refine wb_as22 rfl ?_ | refine wb_as23 rfl ?_ | refine wb_as24 rfl ?_ | refine wb_as25 rfl ?_ | refine wb_as26 rfl ?_ | refine wb_as27 rfl ?_ | refine wb_as28 rfl ?_)
local macro_rules | `(tactic| walk_at "nd") => `(tactic| assumption)
local macro_rules | `(tactic| walk_at "blt") => `(tactic| first
  | ((with_reducible show REG _ (Expr.Call (Expr.Name "tuple" _) _ _ _) _ _ _); refine w_tuple (by assumption) ?_)
  | ((with_reducible show REG _ (Expr.Call (Expr.Name "len" _) _ _ _) _ _ _); refine w_len (by assumption) ?_)
  | ((with_reducible show REG _ (Expr.Call (Expr.Name "sorted" _) [Expr.Name _ _] _ _) _ _ _); refine w_sorted (by assumption) ?_)
  | ((with_reducible show REG _ (Expr.Call (Expr.Name "sorted" _) [Expr.BinOp _ _ _ _] _ _) _ _ _); refine w_sorted (by assumption) ?_)
  | ((with_reducible show REG _ (Expr.Call (Expr.Name "list" _) _ _ _) _ _ _); refine w_list (by assumption) ?_)
  | ((with_reducible show REG _ (Expr.Call (Expr.Name "dict" _) _ _ _) _ _ _); refine w_dict (by assumption) ?_)
  | ((with_reducible show REG _ (Expr.Call (Expr.Name "int" _) _ _ _) _ _ _); refine w_intB (by assumption) ?_)
  | ((with_reducible show REG _ (Expr.Call (Expr.Name "all" _) _ _ _) _ _ _); refine w_all (by assumption) ?_)
  | ((with_reducible show REG _ (Expr.Call (Expr.Name "any" _) _ _ _) _ _ _); refine w_any (by assumption) ?_)
  | ((with_reducible show REG _ (Expr.Call (Expr.Name "min" _) _ _ _) _ _ _); refine w_min (by assumption) ?_)
  | ((with_reducible show REG _ (Expr.Call (Expr.Name "max" _) _ _ _) _ _ _); refine w_max (by assumption) ?_)
  | ((with_reducible show REG _ (Expr.Call (Expr.Name "abs" _) _ _ _) _ _ _); refine w_abs (by assumption) ?_)
  | ((with_reducible show REG _ (Expr.Call (Expr.Name "isinstance" _) _ _ _) _ _ _); refine w_isi (by assumption) ?_)
  | ((with_reducible show REG _ (Expr.Call (Expr.Name "sum" _) _ _ _) _ _ _); refine w_sum (by assumption) ?_))
local macro_rules | `(tactic| walk_at "isi") => `(tactic| first
  | ((with_reducible show BltD _ _ _ [D.int _, _] _); first | exact isi_int_int | exact isi_int_bool | exact isi_int_str | exact isi_int_dict | exact isi_int_tuple | exact isi_int_list)
  | ((with_reducible show BltD _ _ _ [D.bl _, _] _); first | exact isi_bl_int | exact isi_bl_bool | exact isi_bl_str | exact isi_bl_dict | exact isi_bl_tuple | exact isi_bl_list)
  | ((with_reducible show BltD _ _ _ [D.str _, _] _); first | exact isi_str_int | exact isi_str_bool | exact isi_str_str | exact isi_str_dict | exact isi_str_tuple | exact isi_str_list)
  | ((with_reducible show BltD _ _ _ [D.non, _] _); first | exact isi_non_int | exact isi_non_bool | exact isi_non_str | exact isi_non_dict | exact isi_non_tuple | exact isi_non_list)
  | ((with_reducible show BltD _ _ _ [D.tup _, _] _); first | exact isi_tup_int | exact isi_tup_bool | exact isi_tup_str | exact isi_tup_dict | exact isi_tup_tuple | exact isi_tup_list)
  | ((with_reducible show BltD _ _ _ [D.lst _, _] _); first | exact isi_lst_int | exact isi_lst_bool | exact isi_lst_str | exact isi_lst_dict | exact isi_lst_tuple | exact isi_lst_list)
  | ((with_reducible show BltD _ _ _ [D.dT _, _] _); first | exact isi_dT_int | exact isi_dT_bool | exact isi_dT_str | exact isi_dT_dict | exact isi_dT_tuple | exact isi_dT_list)
  | ((with_reducible show BltD _ _ _ [D.dK _, _] _); first | exact isi_dK_int | exact isi_dK_bool | exact isi_dK_str | exact isi_dK_dict | exact isi_dK_tuple | exact isi_dK_list))
local macro_rules | `(tactic| walk_at "tyn") => `(tactic| first
  | ((with_reducible show REG _ (Expr.Name "int" _) _ _ _); refine w_ty_int (by assumption) ?_)
  | ((with_reducible show REG _ (Expr.Name "bool" _) _ _ _); refine w_ty_bool (by assumption) ?_)
  | ((with_reducible show REG _ (Expr.Name "str" _) _ _ _); refine w_ty_str (by assumption) ?_)
  | ((with_reducible show REG _ (Expr.Name "dict" _) _ _ _); refine w_ty_dict (by assumption) ?_)
  | ((with_reducible show REG _ (Expr.Name "tuple" _) _ _ _); refine w_ty_tuple (by assumption) ?_)
  | ((with_reducible show REG _ (Expr.Name "list" _) _ _ _); refine w_ty_list (by assumption) ?_))
local macro_rules | `(tactic| walk_at "args") => `(tactic| first | rfl | (simp only [List.cons.injEq, D.int.injEq, and_true, true_and]; omega))
local macro_rules | `(tactic| walk_at "call") => `(tactic| fail)
local macro_rules | `(tactic| walk_at "st1") => `(tactic| first
  | ((with_reducible show REG _ (Expr.Name _ _) _ _ _); first | walk_at "tyn" | walk_at "name")
  | ((with_reducible show REG _ (Expr.Constant _ _ _) _ _ _); first | refine w_int ?_ | refine w_str ?_ | refine w_bl ?_ | refine w_non ?_)
  | ((with_reducible show REG _ (Expr.Tuple _ _ _) _ _ _); refine w_tup ?_)
  | ((with_reducible show REG _ (Expr.List _ _) _ _ _); refine w_lst ?_)
  | ((with_reducible show REG _ (Expr.Subscript _ _ _) _ _ _); refine w_sub ?_)
  | ((with_reducible show REG _ (Expr.BinOp _ _ _ _) _ _ _); refine w_bin ?_)
  | ((with_reducible show REG _ (Expr.Compare _ _ _ _) _ _ _); refine w_cmp ?_)
  | ((with_reducible show REG _ (Expr.UnaryOp _ _ _) _ _ _); first | refine w_not ?_ | refine w_neg ?_)
  | ((with_reducible show REG _ (Expr.IfExp _ _ _ _) _ _ _); refine w_ifE ?_)
  | ((with_reducible show REG _ (Expr.BoolOp _ _ _) _ _ _); first | refine w_one ?_ | refine w_and ?_ | refine w_or ?_)
  | ((with_reducible show REG _ (Expr.Call (Expr.Attribute (Expr.Name _ _) "append" _) _ _ _) _ _ _); refine w_appendH (by assumption) (by walk_at "var") ?_)
  | ((with_reducible show _ = _ ∧ List.length _ ≤ 100000 ∧ _); refine ⟨rfl, by walk_at "len", ?_⟩)
  | ((with_reducible show REG _ (Expr.Call _ _ _ _) _ _ _); walk_at "call")
  | ((with_reducible show REG _ (Expr.Call (Expr.Name _ _) _ _ _) _ _ _); walk_at "blt")
  | ((with_reducible show ∃ d, BltD _ "len" _ _ d ∧ _); first | refine ⟨_, blt_len .tup, ?_⟩ | refine ⟨_, blt_len .lst, ?_⟩)
  | ((with_reducible show ∃ d, BltD _ "isinstance" _ _ d ∧ _); refine ⟨_, (by walk_at "isi"), ?_⟩)
  | ((with_reducible show ∃ d, BltD _ "abs" _ _ d ∧ _); refine ⟨_, blt_abs, ?_⟩)
  | ((with_reducible show ∃ d, TyD _ "int" _ _ d ∧ _); refine ⟨_, ty_int, ?_⟩)
  | ((with_reducible show ∃ d, TyD _ "tuple" _ _ d ∧ _); first | refine ⟨_, ty_tuple, ?_⟩ | refine ⟨_, ty_tupleT, ?_⟩)
  | ((with_reducible show RAG _ [] _ _ _); refine wa_nil ?_)
  | ((with_reducible show RAG _ (_ :: _) _ _ _); refine wa_cons ?_)
  | ((with_reducible show RTG _ (Expr.Compare _ _ _ _) _ _ _); refine wt_cmp ?_)
  | ((with_reducible show RTG _ (Expr.UnaryOp _ _ _) _ _ _); refine wt_not ?_)
  | ((with_reducible show RTG _ (Expr.BoolOp _ _ _) _ _ _); refine wt_w ?_)
  | ((with_reducible show RTG _ (Expr.Name _ _) _ _ _); refine wt_val ?_)
  | ((with_reducible show RTG _ (Expr.Call _ _ _ _) _ _ _); refine wt_val ?_)
  | ((with_reducible show RWG _ (Expr.BoolOp _ _ _) _ _ _); first | refine ww_and1 ?_ | refine ww_or1 ?_ | refine ww_and ?_ | refine ww_or ?_)
  | ((with_reducible show WS _ (Stmt.Assign [Expr.Name _ _] _ _) _ _ _ _ _ _); walk_at "set")
  | ((with_reducible show WS _ (Stmt.Return (some _) _) _ _ _ _ _ _); refine ws_ret ?_)
  | ((with_reducible show WS _ (Stmt.Return none _) _ _ _ _ _ _); refine ws_retN ?_)
  | ((with_reducible show WS _ (Stmt.Expr _ _) _ _ _ _ _ _); refine ws_expr ?_)
  | ((with_reducible show WS _ (Stmt.If _ _ _ _) _ _ _ _ _ _); refine ws_if ?_)
  | ((with_reducible show WS _ (Stmt.Pass _) _ _ _ _ _ _); refine ws_pass ?_)
  | ((with_reducible show WS _ (Stmt.Break _) _ _ _ _ _ _); refine ws_break ?_)
  | ((with_reducible show WS _ (Stmt.Continue _) _ _ _ _ _ _); refine ws_continue ?_)
  | ((with_reducible show WB _ _ (List.set _ _ _) _ _ _ _ _); walk_at "norm")
  | ((with_reducible show WB _ _ (startG _ _) _ _ _ _ _); walk_at "norm")
  | ((with_reducible show WB _ [] _ _ _ _ _ _); refine wb_nil ?_)
  | ((with_reducible show (List.length _ ≤ 100000 ∧ _)); refine ⟨by walk_at "len", ?_⟩)
  | refine ⟨_, (by walk_at "bin" : BinD _ _ _ _ _ _), ?_⟩
  | refine ⟨_, (by walk_at "cmp" : CmpD _ _ _ _ _ _), ?_⟩
  | refine ⟨_, (by walk_at "ix" : IxD _ _ _ _ _), ?_⟩
  | refine ix2 (by omega) (by omega) (fun h => ?_) (fun h => ?_)
  | refine ix3 (by omega) (by omega) (fun h => ?_) (fun h => ?_) (fun h => ?_)
  | ((with_reducible show ∃ k, (D.bl _ = D.bl k) ∧ _); refine ⟨_, rfl, ?_⟩)
  | ((with_reducible show ∃ k, (D.int _ = D.int k) ∧ _); refine ⟨_, rfl, ?_⟩)
  | ((with_reducible show (true = true → _) ∧ _); refine if_T ?_)
  | ((with_reducible show (false = true → _) ∧ _); refine if_F ?_)
  | ((with_reducible show ((!true) = true → _) ∧ _); refine if_NT ?_)
  | ((with_reducible show ((!false) = true → _) ∧ _); refine if_NF ?_)
  | ((with_reducible show (decide _ = true → _) ∧ _); refine if_dec (fun h => ?_) (fun h => ?_) <;> try (exfalso; first | omega | contradiction))
  | ((with_reducible show ((!decide _) = true → _) ∧ _); refine if_ndec (fun h => ?_) (fun h => ?_) <;> try (exfalso; first | omega | contradiction)))
local macro_rules | `(tactic| walk_at "st") => `(tactic| first | walk_at "st1" | ((show WB _ (_ :: _) _ _ _ _ _ _); refine wb_cons ?_))
local macro_rules | `(tactic| walk_at "cons") => `(tactic| ((show WB _ (_ :: _) _ _ _ _ _ _); refine wb_cons ?_))
local macro_rules | `(tactic| walk_at "go1") => `(tactic| repeat' walk_at "st1")
local macro_rules | `(tactic| walk_at "go") => `(tactic| repeat' walk_at "st")
/-- the name that a var takes -/
def vname : Fr → Str
  | [_, r] => if r.1 = ("z" : Str) then "zz" else "z"
  | _ => "z"
/-- frames in which commands of that depth can be drawn -/
def FrC : Nat → Fr → Prop
  | 0, fr => FrS fr
  | n + 1, fr => FrS fr ∧ (fr.length ≤ 2 → ∀ hi : Int, 1 ≤ hi → hi ≤ 2 → VarWf fr (vname fr, 0, hi) ∧ FrC n (insF (vname fr, 0, hi) fr))
theorem FrC.s : ∀ {n : Nat} {fr : Fr}, FrC n fr → FrS fr
  | 0, _, h => h
  | _ + 1, _, h => h.1
theorem FrC.less : ∀ {n : Nat} {fr : Fr}, FrC (n + 1) fr → FrC n fr
  | 0, _, h => h.1
  | _ + 1, _, h => ⟨h.1, fun l hi h1 h2 => ⟨(h.2 l hi h1 h2).1, (h.2 l hi h1 h2).2.less⟩⟩
section
variable {P : Program} {w : World} {K : PySem.W.Frag} {mg : Str → Option Value} {base : Heap} {f : Addr} {fd : FuncData}
def HCmd (P : Program) (w : World) (K : PySem.W.Frag) (mg : Str → Option Value) (base : Heap) (deep : Nat) : Prop := ∀ fr : Fr, FrC deep fr → HGen P w K mg base "_law_command" (deep + 9) [frD fr, .int (deep : Int)] fun d => ∃ c : Cmd, CmdWf 3 c fr ∧ c.depth ≤ deep ∧ d = c.D
theorem w_cmd {X : Cx} {γ : Sto} {e : Expr} {es : List Expr} {pos p' : Pos} {dr : List Int} {o0 : Own} {p : Addr} {m : Nat} {Q : D → Own → Prop} {fr : Fr} {deep : Nat} {i : Int} (h : HCmd X.prog X.w X.K X.mg X.base deep) (hf : FrC deep fr) (hdr : DrOk dr) (hw : IsW o0 p)
    (ha : RA X (e :: es) γ (oW o0 p dr m) [.adr p, frD fr, .int i] (oW o0 p dr m)) (hi : i = (deep : Int)) (hr : Room (deep + 9) X.A) (q : ∀ c m, CmdWf 3 c fr → c.depth ≤ deep → Q c.D (oW o0 p dr m))
    (hg : Gl X "_law_command" := by rfl) (he : starEach (e :: es) X.env = (false, eval e X.env) :: starEach es X.env := by rfl) (hpl : (backTo pos (starEach es X.env)).any (·.1) = false := by rfl) :
    REG X (.Call (.Name "_law_command" p') (e :: es) [] pos) γ (oW o0 p dr m) Q := w_genR (h fr hf) hdr hw hr ha (by rw [hi]) (by rintro d m ⟨c, h1, h2, rfl⟩; exact q c m h1 h2) hg (by decide) he hpl
local macro_rules | `(tactic| walk_at "call") => `(tactic| first
  | (refine w_next (by assumption) (by assumption) (by assumption) (Room.mono (by assumption) (by omega)) (by walk_at "ra") (by decide) ?_; intro j m hj)
  | (refine w_cmd (by assumption) (by assumption) (by assumption) (by assumption) (by walk_at "ra") (by omega) (Room.mono (by assumption) (by omega)) ?_; intro c m hc hd)
  | (refine w_cond (by assumption) (by assumption) (by assumption) (by assumption) (by walk_at "ra") (by omega) (Room.mono (by assumption) (by omega)) ?_; intro c m hc hd)
  | (refine w_pairs (by assumption) (by assumption) (by assumption) (by assumption) (by walk_at "ra") (Room.mono (by assumption) (by omega)) ?_; intro ps m hps)
  | (refine w_spec (by assumption) (by assumption) (by assumption) (by assumption) (by walk_at "ra") (Room.mono (by assumption) (by omega)) ?_; intro ns pre post m hsp)
  | (refine w_count (by assumption) (by assumption) (by assumption) (by assumption) (by walk_at "ra") (Room.mono (by assumption) (by omega)) ?_; intro c m hc hd))
local macro_rules | `(tactic| walk_at "name") => `(tactic| first
  | ((with_reducible show REG _ (Expr.Name "w" _) _ _ _); refine w_val 0 rfl rfl (by walk_at "vis") ?_)
  | ((with_reducible show REG _ (Expr.Name "frame" _) _ _ _); refine w_val 1 rfl rfl (by walk_at "vis") ?_)
  | ((with_reducible show REG _ (Expr.Name "deep" _) _ _ _); refine w_val 2 rfl rfl (by walk_at "vis") ?_)
  | ((with_reducible show REG _ (Expr.Name "kind" _) _ _ _); refine w_val 3 rfl rfl (by walk_at "vis") ?_)
  | ((with_reducible show REG _ (Expr.Name "guard" _) _ _ _); refine w_val 4 rfl rfl (by walk_at "vis") ?_)
  | ((with_reducible show REG _ (Expr.Name "other" _) _ _ _); refine w_val 5 rfl rfl (by walk_at "vis") ?_)
  | ((with_reducible show REG _ (Expr.Name "name" _) _ _ _); refine w_val 6 rfl rfl (by walk_at "vis") ?_)
  | ((with_reducible show REG _ (Expr.Name "inner" _) _ _ _); refine w_val 7 rfl rfl (by walk_at "vis") ?_)
  | ((with_reducible show REG _ (Expr.Name "own" _) _ _ _); refine w_val 8 rfl rfl (by walk_at "vis") ?_))
local macro_rules | `(tactic| walk_at "set") => `(tactic| first
  | ((with_reducible show WS _ (Stmt.Assign [Expr.Name "w" _] _ _) _ _ _ _ _ _); refine ws_set 0 (by walk_at "nd") rfl (by walk_at "loc") ?_)
  | ((with_reducible show WS _ (Stmt.Assign [Expr.Name "frame" _] _ _) _ _ _ _ _ _); refine ws_set 1 (by walk_at "nd") rfl (by walk_at "loc") ?_)
  | ((with_reducible show WS _ (Stmt.Assign [Expr.Name "deep" _] _ _) _ _ _ _ _ _); refine ws_set 2 (by walk_at "nd") rfl (by walk_at "loc") ?_)
  | ((with_reducible show WS _ (Stmt.Assign [Expr.Name "kind" _] _ _) _ _ _ _ _ _); refine ws_set 3 (by walk_at "nd") rfl (by walk_at "loc") ?_)
  | ((with_reducible show WS _ (Stmt.Assign [Expr.Name "guard" _] _ _) _ _ _ _ _ _); refine ws_set 4 (by walk_at "nd") rfl (by walk_at "loc") ?_)
  | ((with_reducible show WS _ (Stmt.Assign [Expr.Name "other" _] _ _) _ _ _ _ _ _); refine ws_set 5 (by walk_at "nd") rfl (by walk_at "loc") ?_)
  | ((with_reducible show WS _ (Stmt.Assign [Expr.Name "name" _] _ _) _ _ _ _ _ _); refine ws_set 6 (by walk_at "nd") rfl (by walk_at "loc") ?_)
  | ((with_reducible show WS _ (Stmt.Assign [Expr.Name "inner" _] _ _) _ _ _ _ _ _); refine ws_set 7 (by walk_at "nd") rfl (by walk_at "loc") ?_)
  | ((with_reducible show WS _ (Stmt.Assign [Expr.Name "own" _] _ _) _ _ _ _ _ _); refine ws_set 8 (by walk_at "nd") rfl (by walk_at "loc") ?_))
local macro_rules | `(tactic| walk_at "var") => `(tactic| first
  | ((with_reducible show RE _ (Expr.Name "w" _) _ _ _ _); exact re_v 0 rfl rfl (by walk_at "vis"))
  | ((with_reducible show RE _ (Expr.Name "frame" _) _ _ _ _); exact re_v 1 rfl rfl (by walk_at "vis"))
  | ((with_reducible show RE _ (Expr.Name "deep" _) _ _ _ _); exact re_v 2 rfl rfl (by walk_at "vis"))
  | ((with_reducible show RE _ (Expr.Name "kind" _) _ _ _ _); exact re_v 3 rfl rfl (by walk_at "vis"))
  | ((with_reducible show RE _ (Expr.Name "guard" _) _ _ _ _); exact re_v 4 rfl rfl (by walk_at "vis"))
  | ((with_reducible show RE _ (Expr.Name "other" _) _ _ _ _); exact re_v 5 rfl rfl (by walk_at "vis"))
  | ((with_reducible show RE _ (Expr.Name "name" _) _ _ _ _); exact re_v 6 rfl rfl (by walk_at "vis"))
  | ((with_reducible show RE _ (Expr.Name "inner" _) _ _ _ _); exact re_v 7 rfl rfl (by walk_at "vis"))
  | ((with_reducible show RE _ (Expr.Name "own" _) _ _ _ _); exact re_v 8 rfl rfl (by walk_at "vis")))
theorem gen_cmd_zero (F : Fun K "_law_command" "_law_command" s__law_command f fd) (hm : mg "_law_command" = some (.ref f)) (B : Bi mg) (h1 : HNext P w K mg base) (h2 : HPick P w K mg base) (h3 : HCond P w K mg base) (h4 : HPairs P w K mg base) (h5 : HSpec P w K mg base) (h6 : HCount P w K mg base) :
    HCmd P w K mg base 0 := fun fr hf => by
  have hfs := hf.s
  refine gen_mk F sc__law_command hm (F.binds fun _ _ _ _ _ _ us hl => match us, hl with | [_, _, _], _ => rfl) rfl fun dr o0 p m hdr hw cdv A outer s0 H E hr hnd => ?_
  walk_at "go"
  · rename_i ns pre post _ h
    exact ⟨⟨_, rfl⟩, .spec ns pre post, by rw [CmdWf]; exact h, Nat.le_refl _, rfl⟩
  · refine w_genL (h2 [.non] (.lst [.non]) (by decide) (.inr rfl)) hdr hw ?_
    walk_at "go"
    rename_i a _ ha1 ha2 b m3 hb1 hb2
    refine ⟨_, _, _, h2 [Cmd.skip.D, Cmd.abort.D, Cmd.magic.D, (Cmd.assert a).D, (Cmd.assume b).D] _ (Nat.le_of_ble_eq_true rfl) (.inr rfl), hr.mono (by omega), rfl, ⟨_, rfl⟩, fun d m4 hd => ?_⟩
    simp only [List.mem_cons, List.mem_nil_iff, or_false] at hd
    rcases hd with rfl | rfl | rfl | rfl | rfl
    · exact ⟨⟨_, rfl⟩, .skip, by rw [CmdWf]; trivial, Nat.le_refl _, rfl⟩
    · exact ⟨⟨_, rfl⟩, .abort, by rw [CmdWf]; trivial, Nat.le_refl _, rfl⟩
    · exact ⟨⟨_, rfl⟩, .magic, by rw [CmdWf]; trivial, Nat.le_refl _, rfl⟩
    · exact ⟨⟨_, rfl⟩, .assert a, by rw [CmdWf]; exact ⟨ha1, Nat.le_trans ha2 (by decide)⟩, Nat.le_refl _, rfl⟩
    · exact ⟨⟨_, rfl⟩, .assume b, by rw [CmdWf]; exact ⟨hb1, Nat.le_trans hb2 (by decide)⟩, Nat.le_refl _, rfl⟩
  · rename_i ps _ h
    exact ⟨⟨_, rfl⟩, .set ps, by rw [CmdWf]; exact h, Nat.le_refl _, rfl⟩
theorem ins_hi {r : Row} : ∀ {fr : Fr}, r.1 ∉ namesF fr → ((insF r fr).filter fun q => decide (q.1 = r.1)).map (fun q => D.int q.2.2) = [.int r.2.2]
  | [], _ => by
    unfold insF
    rw [List.filter_cons_of_pos (by simp), List.filter_nil]; rfl
  | q :: f, h => by
    have hq : q.1 ≠ r.1 := fun e => h (by rw [← e]; exact List.mem_cons_self)
    have hf : r.1 ∉ namesF f := fun z => h (List.mem_cons_of_mem _ z)
    have hn : (q :: f).filter (fun q => decide (q.1 = r.1)) = [] := List.filter_eq_nil_iff.mpr fun t ht => by
      have : t.1 ≠ r.1 := fun e => h (by rw [← e]; exact List.mem_map_of_mem ht)
      simpa using this
    unfold insF
    split
    · rw [List.filter_cons_of_neg (by simpa using hq)]
      exact ins_hi hf
    · rw [List.filter_cons_of_pos (by simp), hn]; rfl
theorem alts2 {k : Nat} {fr : Fr} {g h : Cnd} {a b : Cmd} (h1 : CWf fr false g ∧ g.depth ≤ k) (h2 : CmdWf k a fr) (h3 : CWf fr false h ∧ h.depth ≤ k) (h4 : CmdWf k b fr) : CmdWf k (.ite (.cons g a (.cons h b .nil))) fr := by
  rw [CmdWf, AltsWf, AltsWf, AltsWf]
  exact ⟨⟨h1, h2, h3, h4, trivial⟩, Nat.le_of_ble_eq_true rfl, Nat.le_of_ble_eq_true rfl⟩
theorem doo1 {k : Nat} {fr : Fr} {g : Cnd} {a : Cmd} (h1 : CWf fr false g ∧ g.depth ≤ k) (h2 : CmdWf k a fr) : CmdWf k (.doo (.cons g a .nil)) fr := by
  rw [CmdWf, AltsWf, AltsWf]
  exact ⟨⟨h1, h2, trivial⟩, Nat.le_of_ble_eq_true rfl, Nat.le_of_ble_eq_true rfl⟩
theorem gen_cmd_succ (F : Fun K "_law_command" "_law_command" s__law_command f fd) (hm : mg "_law_command" = some (.ref f)) (B : Bi mg) (h1 : HNext P w K mg base) (h2 : HPick P w K mg base) (h3 : HCond P w K mg base) (h4 : HPairs P w K mg base) (h5 : HSpec P w K mg base) (h6 : HCount P w K mg base) (deep : Nat)
    (ih : HCmd P w K mg base deep) : HCmd P w K mg base (deep + 1) := fun fr hf => by
  have hfs := hf.s
  have hfl := hf.less
  have few := hfs.ok.few
  refine gen_mk F sc__law_command hm (F.binds fun _ _ _ _ _ _ us hl => match us, hl with | [_, _, _], _ => rfl) rfl fun dr o0 p m hdr hw cdv A outer s0 H E hr hnd => ?_
  walk_at "go1"
  iterate 7
    all_goals (try walk_at "cons")
    all_goals walk_at "go1"
  · rename_i ns pre post _ h
    exact ⟨⟨_, rfl⟩, .spec ns pre post, by rw [CmdWf]; exact h, Nat.zero_le _, rfl⟩
  · refine w_genL (h2 [.non] (.lst [.non]) (by decide) (.inr rfl)) hdr hw ?_
    walk_at "go"
    rename_i a _ ha1 ha2 b m3 hb1 hb2
    refine ⟨_, _, _, h2 [Cmd.skip.D, Cmd.abort.D, Cmd.magic.D, (Cmd.assert a).D, (Cmd.assume b).D] _ (Nat.le_of_ble_eq_true rfl) (.inr rfl), hr.mono (by omega), rfl, ⟨_, rfl⟩, fun d m4 hd => ?_⟩
    simp only [List.mem_cons, List.mem_nil_iff, or_false] at hd
    rcases hd with rfl | rfl | rfl | rfl | rfl
    · exact ⟨⟨_, rfl⟩, .skip, by rw [CmdWf]; trivial, Nat.zero_le _, rfl⟩
    · exact ⟨⟨_, rfl⟩, .abort, by rw [CmdWf]; trivial, Nat.zero_le _, rfl⟩
    · exact ⟨⟨_, rfl⟩, .magic, by rw [CmdWf]; trivial, Nat.zero_le _, rfl⟩
    · exact ⟨⟨_, rfl⟩, .assert a, by rw [CmdWf]; exact ⟨ha1, Nat.le_trans ha2 (by decide)⟩, Nat.zero_le _, rfl⟩
    · exact ⟨⟨_, rfl⟩, .assume b, by rw [CmdWf]; exact ⟨hb1, Nat.le_trans hb2 (by decide)⟩, Nat.zero_le _, rfl⟩
  · rename_i ps _ h
    exact ⟨⟨_, rfl⟩, .set ps, by rw [CmdWf]; exact h, Nat.zero_le _, rfl⟩
  · rename_i a _ ha1 ha2 b _ hb1 hb2
    exact ⟨⟨_, rfl⟩, .seq a b, by rw [CmdWf]; exact ⟨ha1, hb1⟩, Nat.succ_le_succ (Nat.max_le.mpr ⟨ha2, hb2⟩), rfl⟩
  · rename_i g _ hg1 hg2 _ _ _ _ a _ ha1 ha2 b _ hb1 hb2
    exact ⟨⟨_, rfl⟩, .ite (.cons g a (.cons (.not g) b .nil)), alts2 ⟨hg1, Nat.le_trans hg2 (by decide)⟩ ha1 ⟨hg1, Nat.succ_le_succ (Nat.le_trans hg2 (by decide))⟩ hb1, Nat.succ_le_succ (Nat.max_le.mpr ⟨ha2, Nat.max_le.mpr ⟨hb2, Nat.zero_le _⟩⟩), rfl⟩
  · rename_i g _ hg1 hg2 _ _ _ _ h _ hh1 hh2 a _ ha1 ha2 b _ hb1 hb2
    exact ⟨⟨_, rfl⟩, .ite (.cons g a (.cons h b .nil)), alts2 ⟨hg1, Nat.le_trans hg2 (by decide)⟩ ha1 ⟨hh1, Nat.le_trans hh2 (by decide)⟩ hb1, Nat.succ_le_succ (Nat.max_le.mpr ⟨ha2, Nat.max_le.mpr ⟨hb2, Nat.zero_le _⟩⟩), rfl⟩
  · rename_i a _ ha1 ha2 b _ hb1 hb2
    exact ⟨⟨_, rfl⟩, .any a b, by rw [CmdWf]; exact ⟨ha1, hb1⟩, Nat.succ_le_succ (Nat.max_le.mpr ⟨ha2, hb2⟩), rfl⟩
  · rename_i c _ hc hd
    exact ⟨⟨_, rfl⟩, c, hc, Nat.le_trans hd (Nat.succ_le_succ (Nat.zero_le _)), rfl⟩
  · rename_i c _ hc hd
    exact ⟨⟨_, rfl⟩, c, hc, Nat.le_trans hd (Nat.succ_le_succ (Nat.zero_le _)), rfl⟩
  · walk_at "go"
    rename_i g _ hg1 hg2 a _ ha1 ha2
    exact ⟨⟨_, rfl⟩, .doo (.cons g a .nil), doo1 ⟨hg1, Nat.le_trans hg2 (by decide)⟩ ha1, Nat.succ_le_succ (Nat.max_le.mpr ⟨ha2, Nat.zero_le _⟩), rfl⟩
  · rename_i h2len _
    have hlen : fr.length ≤ 2 := by rw [List.length_map] at h2len; omega
    refine wb_cut (fun γ' o' => ∃ nm m kk, nm = vname fr ∧ γ' = [some (.adr p), some (frD fr), some (.int ((deep + 1 : Nat) : Int)), some kk, none, none, some (.str nm), none, none] ∧ o' = oW o0 p dr m) ?_ ?_
    · have hl1 := hfs.one
      walk_at "go1"
      · rename_i hlt
        refine ⟨"z", _, _, ?_, rfl, rfl⟩
        rw [List.length_map] at hlt
        match fr, hlt, hl1 with
        | [r], _, _ => rfl
        | _ :: _ :: _, h, _ => exact absurd h (by simp; omega)
      · rename_i hlt
        obtain ⟨r, q, rfl⟩ : ∃ r q, fr = [r, q] := by
          rw [List.length_map] at hlt
          match fr, hlt, hlen with
          | [], h, _ => exact absurd h (by simp)
          | [_], h, _ => exact absurd h (by simp)
          | [r, q], _, _ => exact ⟨r, q, rfl⟩
          | _ :: _ :: _ :: _, _, h => exact absurd h (by simp)
        refine ⟨_, ix_tupD (d := rowD q) rfl, ?_⟩
        walk_at "go1"
        · rename_i hne
          exact ⟨"z", _, _, (if_neg hne).symm, rfl, rfl⟩
        · rename_i he
          exact ⟨"zz", _, _, (if_pos he).symm, rfl, rfl⟩
    · rintro γ' o' ⟨nm, m1, kk, rfl, rfl, rfl⟩
      walk_at "go"
      rename_i j m2 hj
      obtain ⟨hv, hfi⟩ := hf.2 hlen (1 + (j : Int)) (by omega) (by omega)
      rw [show D.tup (fr.map rowD ++ [D.tup [.str (vname fr), .int 0, .int (1 + (j : Int))]]) = frD (fr ++ [(vname fr, 0, 1 + (j : Int))]) by unfold frD; rw [List.map_append]; rfl]
      refine ⟨_, blt_sortedR rfl (insF_perm (vname fr, 0, 1 + (j : Int)) fr) (insF_asc _ hfs.asc), ?_⟩
      walk_at "go"
      refine w_l (wl_lcE [("own", 8)] rfl hnd (blkOk_by (N := n__law_command) (sc := defScope s__law_command) (by decide +kernel)) (wi_tup ?_))
      walk_at "go"
      refine ⟨_, rfl, lcp_pure (L := insF (vname fr, 0, 1 + (j : Int)) fr) (g := rowD) (fun q => decide (q.1 = vname fr)) (fun q => D.int q.2.2) trivial ?_ (fun q hq => ⟨_, _, ?_, fun q => rg_name 8 hnd rfl (by walk_at "loc"), fun q => wts_one ?_, fun _ q => ?_⟩) ?_⟩
      · have z := (insF_perm (vname fr, 0, 1 + (j : Int)) fr).length_eq
        rw [List.length_append] at z
        have z2 : [((vname fr, 0, 1 + (j : Int)) : Row)].length = 1 := rfl
        omega
      · decide
      · walk_at "go"
        exact ⟨rfl, rfl⟩
      · walk_at "go"
        exact ⟨rfl, rfl⟩
      · rw [ins_hi hv.ok.new]
        walk_at "go"
        rename_i c _ hc hd
        exact ⟨⟨_, rfl⟩, .var (vname fr, 0, 1 + (j : Int)) c, by rw [CmdWf]; exact ⟨hv, hc⟩, Nat.succ_le_succ hd, rfl⟩
theorem gen_cmd (F : Fun K "_law_command" "_law_command" s__law_command f fd) (hm : mg "_law_command" = some (.ref f)) (B : Bi mg) (h1 : HNext P w K mg base) (h2 : HPick P w K mg base) (h3 : HCond P w K mg base) (h4 : HPairs P w K mg base) (h5 : HSpec P w K mg base) (h6 : HCount P w K mg base) : ∀ deep, HCmd P w K mg base deep
  | 0 => gen_cmd_zero F hm B h1 h2 h3 h4 h5 h6
  | deep + 1 => gen_cmd_succ F hm B h1 h2 h3 h4 h5 h6 deep (gen_cmd F hm B h1 h2 h3 h4 h5 h6 deep)
end
/-! ### the frames that are drawn -/
theorem statesFrom_num : ∀ (f : Fr) (found : List (List Int)), (statesFrom found f).length = found.length * (f.map fun r => (numsF r.2.1 r.2.2).length).foldr (· * ·) 1
  | [], found => by rw [List.map_nil, List.foldr_nil, Nat.mul_one]; rfl
  | r :: f, found => by
    show (statesFrom (found.flatMap fun s => (numsF r.2.1 r.2.2).map fun v => s ++ [v]) f).length = _
    rw [statesFrom_num f, List.length_flatMap, List.map_cons, List.foldr_cons, ← Nat.mul_assoc]
    congr 1
    have e : (found.map fun s => ((numsF r.2.1 r.2.2).map fun v => s ++ [v]).length) = found.map fun _ => (numsF r.2.1 r.2.2).length := List.map_congr_left fun s _ => List.length_map _
    rw [e, List.map_const', List.sum_replicate_nat]
theorem numsF_num (lo hi : Int) : (numsF lo hi).length = (hi + 1 - lo).toNat := by unfold numsF; rw [List.length_map, List.length_range]
/-- a frame of these rows, each of so many numbers at most -/
theorem frs_mk {fr : Fr} (h1 : 1 ≤ fr.length) (h8 : fr.length ≤ 8) (hr : ∀ r ∈ fr, -100 ≤ r.2.1 ∧ r.2.1 ≤ 100 ∧ -100 ≤ r.2.2 ∧ r.2.2 ≤ 100) (hn : (namesF fr).Nodup) (hg : ∀ x ∈ namesF fr, GenNm x) (ha : AscR fr) (hs : ∀ n, ((fr.take n).map fun r => (numsF r.2.1 r.2.2).length).foldr (· * ·) 1 ≤ 60) : FrS fr :=
  ⟨⟨h8, hr, hn, fun x hx => by
    have z : ∀ x ∈ (["m", "n", "x", "y", "z", "zz"] : List Str), NmOk x := by decide +kernel
    exact z x (hg x hx), fun n => by rw [statesFrom_num, List.length_singleton, Nat.one_mul]; exact hs n⟩, h1, ha⟩
end J
end

section
set_option Elab.async false
set_option maxHeartbeats 0
set_option linter.all false
set_option maxRecDepth 100000
/-! the law's frames -/
namespace J
open PySem PySem.Spec PyProof.Rows L2
local macro_rules | `(tactic| walk_at "vis") => `(tactic| first | exact Or.inl rfl | exact Or.inr (Or.inl rfl) | exact Or.inr (Or.inr rfl))
local macro_rules | `(tactic| walk_at "loc") => `(tactic| first | exact Or.inl rfl | exact Or.inr rfl)
local macro_rules | `(tactic| walk_at "var") => `(tactic| first
  | exact re_v 0 rfl rfl (by walk_at "vis") | exact re_v 1 rfl rfl (by walk_at "vis") | exact re_v 2 rfl rfl (by walk_at "vis") | exact re_v 3 rfl rfl (by walk_at "vis")
  | exact re_v 4 rfl rfl (by walk_at "vis") | exact re_v 5 rfl rfl (by walk_at "vis") | exact re_v 6 rfl rfl (by walk_at "vis") | exact re_v 7 rfl rfl (by walk_at "vis")
  | exact re_v 8 rfl rfl (by walk_at "vis") | exact re_v 9 rfl rfl (by walk_at "vis") | exact re_v 10 rfl rfl (by walk_at "vis") | exact re_v 11 rfl rfl (by walk_at "vis")
  | exact re_v 12 rfl rfl (by walk_at "vis") | exact re_v 13 rfl rfl (by walk_at "vis") | exact re_v 14 rfl rfl (by walk_at "vis") | exact re_v 15 rfl rfl (by walk_at "vis")
  | exact re_v 16 rfl rfl (by walk_at "vis") | exact re_v 17 rfl rfl (by walk_at "vis") | exact re_v 18 rfl rfl (by walk_at "vis") | exact re_v 19 rfl rfl (by walk_at "vis"))
local macro_rules | `(tactic| walk_at "ix") => `(tactic| first | exact ix_tupD rfl | exact ix_lstD rfl | exact ix_wtD rfl)
local macro_rules | `(tactic| walk_at "len") => `(tactic| first | exact Nat.le_of_ble_eq_true rfl | assumption | (simp; done) | (simp; omega))
local macro_rules | `(tactic| walk_at "ra") => `(tactic| first | ((with_reducible show RA _ [] _ _ _ _); exact ra_nil) | ((with_reducible show RA _ (_ :: _) _ _ _ _); exact ra_cons (by walk_at "ev") (by walk_at "ra")))
local macro_rules | `(tactic| walk_at "bin") => `(tactic| first | exact bin_addI | exact bin_subI | exact bin_addT (by walk_at "len") | exact bin_addL (by walk_at "len") | exact bin_mulI (Or.inr ⟨by decide, by decide⟩) | exact bin_mulI (Or.inl ⟨by decide, by decide⟩) | exact bin_modI (by decide) | exact bin_divW ⟨by decide, by decide⟩ | exact bin_pow ⟨by decide, by decide, by decide⟩)
local macro_rules | `(tactic| walk_at "ev") => `(tactic| first
  | ((with_reducible show RE _ (Expr.Name _ _) _ _ _ _); walk_at "var")
  | ((with_reducible show RE _ (Expr.Constant _ _ _) _ _ _ _); first | exact re_int | exact re_str | exact re_bl | exact re_non)
  | ((with_reducible show RE _ (Expr.Tuple _ _ _) _ _ _ _); exact re_tup (by walk_at "ra") (by walk_at "len"))
  | ((with_reducible show RE _ (Expr.List _ _) _ _ _ _); exact re_lst (by walk_at "ra") (by walk_at "len"))
  | ((with_reducible show RE _ (Expr.Subscript _ _ _) _ _ _ _); exact re_sub (by walk_at "ev") (by walk_at "ev") (by walk_at "ix"))
  | ((with_reducible show RE _ (Expr.BinOp _ _ _ _) _ _ _ _); exact re_bin (by walk_at "ev") (by walk_at "ev") (by walk_at "bin"))
  | assumption)
local macro_rules | `(tactic| walk_at "cmp") => `(tactic| first | exact cmp_ltI | exact cmp_leI | exact cmp_gtI | exact cmp_geI | exact cmp_eqI | exact cmp_neI | exact cmp_eqS | exact cmp_neS | exact cmp_eqB | exact cmp_neB | exact cmp_isNn | exact cmp_isNt | exact cmp_notNn | exact cmp_notNt | exact cmp_isN' | exact cmp_notN' | exact cmp_inSt (J.Room.u65 (by assumption)) .tup | exact cmp_inSt (J.Room.u65 (by assumption)) .lst | exact cmp_ninSt (J.Room.u65 (by assumption)) .tup | exact cmp_ninSt (J.Room.u65 (by assumption)) .lst | exact cmp_eqNil (J.Room.u0 (by assumption)) .lst | exact cmp_neNil (J.Room.u0 (by assumption)) .lst)
local macro_rules | `(tactic| walk_at "norm") => `(tactic| first | refine wb_as1 rfl ?_ | refine wb_as2 rfl ?_ | refine wb_as3 rfl ?_ | refine wb_as4 rfl ?_ | refine wb_as5 rfl ?_ | refine wb_as6 rfl ?_ | refine wb_as7 rfl ?_ | refine wb_as8 rfl ?_ | refine wb_as9 rfl ?_ | refine wb_as10 rfl ?_ | refine wb_as11 rfl ?_ | refine wb_as12 rfl ?_ | refine wb_as13 rfl ?_ | refine wb_as14 rfl ?_ | refine wb_as15 rfl ?_ | refine wb_as16 rfl ?_ | refine wb_as17 rfl ?_ | refine wb_as18 rfl ?_ | refine wb_as19 rfl ?_ | refine wb_as20 rfl ?_ | refine wb_as21 rfl ?_ | refine wb_as22 rfl ?_ | refine wb_as23 rfl ?_ | refine wb_as24 rfl ?_ | refine wb_as25 rfl ?_ | refine wb_as26 rfl ?_ | refine wb_as27 rfl ?_ | refine wb_as28 rfl ?_)
local macro_rules | `(tactic| walk_at "nd") => `(tactic| assumption)
local macro_rules | `(tactic| walk_at "blt") => `(tactic| first
  | ((with_reducible show REG _ (Expr.Call (Expr.Name "tuple" _) _ _ _) _ _ _); refine w_tuple (by assumption) ?_)
  | ((with_reducible show REG _ (Expr.Call (Expr.Name "len" _) _ _ _) _ _ _); refine w_len (by assumption) ?_)
  | ((with_reducible show REG _ (Expr.Call (Expr.Name "sorted" _) [Expr.Name _ _] _ _) _ _ _); refine w_sorted (by assumption) ?_)
  | ((with_reducible show REG _ (Expr.Call (Expr.Name "sorted" _) [Expr.BinOp _ _ _ _] _ _) _ _ _); refine w_sorted (by assumption) ?_)
  | ((with_reducible show REG _ (Expr.Call (Expr.Name "list" _) _ _ _) _ _ _); refine w_list (by assumption) ?_)
  | ((with_reducible show REG _ (Expr.Call (Expr.Name "dict" _) _ _ _) _ _ _); refine w_dict (by assumption) ?_)
  | ((with_reducible show REG _ (Expr.Call (Expr.Name "int" _) _ _ _) _ _ _); refine w_intB (by assumption) ?_)
  | ((with_reducible show REG _ (Expr.Call (Expr.Name "all" _) _ _ _) _ _ _); refine w_all (by assumption) ?_)
  | ((with_reducible show REG _ (Expr.Call (Expr.Name "any" _) _ _ _) _ _ _); refine w_any (by assumption) ?_)
  | ((with_reducible show REG _ (Expr.Call (Expr.Name "min" _) _ _ _) _ _ _); refine w_min (by assumption) ?_)
  | ((with_reducible show REG _ (Expr.Call (Expr.Name "max" _) _ _ _) _ _ _); refine w_max (by assumption) ?_)
  | ((with_reducible show REG _ (Expr.Call (Expr.Name "abs" _) _ _ _) _ _ _); refine w_abs (by assumption) ?_)
  | ((with_reducible show REG _ (Expr.Call (Expr.Name "isinstance" _) _ _ _) _ _ _); refine w_isi (by assumption) ?_)
  | ((with_reducible show REG _ (Expr.Call (Expr.Name "sum" _) _ _ _) _ _ _); refine w_sum (by assumption) ?_))
local macro_rules | `(tactic| walk_at "isi") => `(tactic| first
  | ((with_reducible show BltD _ _ _ [D.int _, _] _); first | exact isi_int_int | exact isi_int_bool | exact isi_int_str | exact isi_int_dict | exact isi_int_tuple | exact isi_int_list)
  | ((with_reducible show BltD _ _ _ [D.bl _, _] _); first | exact isi_bl_int | exact isi_bl_bool | exact isi_bl_str | exact isi_bl_dict | exact isi_bl_tuple | exact isi_bl_list)
  | ((with_reducible show BltD _ _ _ [D.str _, _] _); first | exact isi_str_int | exact isi_str_bool | exact isi_str_str | exact isi_str_dict | exact isi_str_tuple | exact isi_str_list)
  | ((with_reducible show BltD _ _ _ [D.non, _] _); first | exact isi_non_int | exact isi_non_bool | exact isi_non_str | exact isi_non_dict | exact isi_non_tuple | exact isi_non_list)
  | ((with_reducible show BltD _ _ _ [D.tup _, _] _); first | exact isi_tup_int | exact isi_tup_bool | exact isi_tup_str | exact isi_tup_dict | exact isi_tup_tuple | exact isi_tup_list)
  | ((with_reducible show BltD _ _ _ [D.lst _, _] _); first | exact isi_lst_int | exact isi_lst_bool | exact isi_lst_str | exact isi_lst_dict | exact isi_lst_tuple | exact isi_lst_list)
  | ((with_reducible show BltD _ _ _ [D.dT _, _] _); first | exact isi_dT_int | exact isi_dT_bool | exact isi_dT_str | exact isi_dT_dict | exact isi_dT_tuple | exact isi_dT_list)
  | ((with_reducible show BltD _ _ _ [D.dK _, _] _); first | exact isi_dK_int | exact isi_dK_bool | exact isi_dK_str | exact isi_dK_dict | exact isi_dK_tuple | exact isi_dK_list))
local macro_rules | `(tactic| walk_at "tyn") => `(tactic| first
  | ((with_reducible show REG _ (Expr.Name "int" _) _ _ _); refine w_ty_int (by assumption) ?_)
  | ((with_reducible show REG _ (Expr.Name "bool" _) _ _ _); refine w_ty_bool (by assumption) ?_)
  | ((with_reducible show REG _ (Expr.Name "str" _) _ _ _); refine w_ty_str (by assumption) ?_)
  | ((with_reducible show REG _ (Expr.Name "dict" _) _ _ _); refine w_ty_dict (by assumption) ?_)
  | ((with_reducible show REG _ (Expr.Name "tuple" _) _ _ _); refine w_ty_tuple (by assumption) ?_)
  | ((with_reducible show REG _ (Expr.Name "list" _) _ _ _); refine w_ty_list (by assumption) ?_))
local macro_rules | `(tactic| walk_at "args") => `(tactic| first | rfl | (simp only [List.cons.injEq, D.int.injEq, and_true, true_and]; omega))
local macro_rules | `(tactic| walk_at "call") => `(tactic| fail)
local macro_rules | `(tactic| walk_at "st1") => `(tactic| first
  | ((with_reducible show REG _ (Expr.Name _ _) _ _ _); first | walk_at "tyn" | walk_at "name")
  | ((with_reducible show REG _ (Expr.Constant _ _ _) _ _ _); first | refine w_int ?_ | refine w_str ?_ | refine w_bl ?_ | refine w_non ?_)
  | ((with_reducible show REG _ (Expr.Tuple _ _ _) _ _ _); refine w_tup ?_)
  | ((with_reducible show REG _ (Expr.List _ _) _ _ _); refine w_lst ?_)
  | ((with_reducible show REG _ (Expr.Subscript _ _ _) _ _ _); refine w_sub ?_)
  | ((with_reducible show REG _ (Expr.BinOp _ _ _ _) _ _ _); refine w_bin ?_)
  | ((with_reducible show REG _ (Expr.Compare _ _ _ _) _ _ _); refine w_cmp ?_)
  | ((with_reducible show REG _ (Expr.UnaryOp _ _ _) _ _ _); first | refine w_not ?_ | refine w_neg ?_)
  | ((with_reducible show REG _ (Expr.IfExp _ _ _ _) _ _ _); refine w_ifE ?_)
  | ((with_reducible show REG _ (Expr.BoolOp _ _ _) _ _ _); first | refine w_one ?_ | refine w_and ?_ | refine w_or ?_)
  | ((with_reducible show REG _ (Expr.Call (Expr.Attribute (Expr.Name _ _) "append" _) _ _ _) _ _ _); refine w_appendH (by assumption) (by walk_at "var") ?_)
  | ((with_reducible show _ = _ ∧ List.length _ ≤ 100000 ∧ _); refine ⟨rfl, by walk_at "len", ?_⟩)
  | ((with_reducible show REG _ (Expr.Call _ _ _ _) _ _ _); walk_at "call")
  | ((with_reducible show REG _ (Expr.Call (Expr.Name _ _) _ _ _) _ _ _); walk_at "blt")
  | ((with_reducible show ∃ d, BltD _ "len" _ _ d ∧ _); first | refine ⟨_, blt_len .tup, ?_⟩ | refine ⟨_, blt_len .lst, ?_⟩)
  | ((with_reducible show ∃ d, BltD _ "isinstance" _ _ d ∧ _); refine ⟨_, (by walk_at "isi"), ?_⟩)
  | ((with_reducible show ∃ d, BltD _ "abs" _ _ d ∧ _); refine ⟨_, blt_abs, ?_⟩)
  | ((with_reducible show ∃ d, TyD _ "int" _ _ d ∧ _); refine ⟨_, ty_int, ?_⟩)
  | ((with_reducible show ∃ d, TyD _ "tuple" _ _ d ∧ _); first | refine ⟨_, ty_tuple, ?_⟩ | refine ⟨_, ty_tupleT, ?_⟩)
  | ((with_reducible show RAG _ [] _ _ _); refine wa_nil ?_)
  | ((with_reducible show RAG _ (_ :: _) _ _ _); refine wa_cons ?_)
  | ((with_reducible show RTG _ (Expr.Compare _ _ _ _) _ _ _); refine wt_cmp ?_)
  | ((with_reducible show RTG _ (Expr.UnaryOp _ _ _) _ _ _); refine wt_not ?_)
  | ((with_reducible show RTG _ (Expr.BoolOp _ _ _) _ _ _); refine wt_w ?_)
  | ((with_reducible show RTG _ (Expr.Name _ _) _ _ _); refine wt_val ?_)
  | ((with_reducible show RTG _ (Expr.Call _ _ _ _) _ _ _); refine wt_val ?_)
  | ((with_reducible show RWG _ (Expr.BoolOp _ _ _) _ _ _); first | refine ww_and1 ?_ | refine ww_or1 ?_ | refine ww_and ?_ | refine ww_or ?_)
  | ((with_reducible show WS _ (Stmt.Assign [Expr.Name _ _] _ _) _ _ _ _ _ _); walk_at "set")
  | ((with_reducible show WS _ (Stmt.Return (some _) _) _ _ _ _ _ _); refine ws_ret ?_)
  | ((with_reducible show WS _ (Stmt.Return none _) _ _ _ _ _ _); refine ws_retN ?_)
  | ((with_reducible show WS _ (Stmt.Expr _ _) _ _ _ _ _ _); refine ws_expr ?_)
  | ((with_reducible show WS _ (Stmt.If _ _ _ _) _ _ _ _ _ _); refine ws_if ?_)
  | ((with_reducible show WS _ (Stmt.Pass _) _ _ _ _ _ _); refine ws_pass ?_)
  | ((with_reducible show WS _ (Stmt.Break _) _ _ _ _ _ _); refine ws_break ?_)
  | ((with_reducible show WS _ (Stmt.Continue _) _ _ _ _ _ _); refine ws_continue ?_)
  | ((with_reducible show WB _ _ (List.set _ _ _) _ _ _ _ _); walk_at "norm")
  | ((with_reducible show WB _ _ (startG _ _) _ _ _ _ _); walk_at "norm")
  | ((with_reducible show WB _ [] _ _ _ _ _ _); refine wb_nil ?_)
  | ((with_reducible show (List.length _ ≤ 100000 ∧ _)); refine ⟨by walk_at "len", ?_⟩)
  | refine ⟨_, (by walk_at "bin" : BinD _ _ _ _ _ _), ?_⟩
  | refine ⟨_, (by walk_at "cmp" : CmpD _ _ _ _ _ _), ?_⟩
  | refine ⟨_, (by walk_at "ix" : IxD _ _ _ _ _), ?_⟩
  | refine ix2 (by omega) (by omega) (fun h => ?_) (fun h => ?_)
  | refine ix3 (by omega) (by omega) (fun h => ?_) (fun h => ?_) (fun h => ?_)
  | ((with_reducible show ∃ k, (D.bl _ = D.bl k) ∧ _); refine ⟨_, rfl, ?_⟩)
  | ((with_reducible show ∃ k, (D.int _ = D.int k) ∧ _); refine ⟨_, rfl, ?_⟩)
  | ((with_reducible show (true = true → _) ∧ _); refine if_T ?_)
  | ((with_reducible show (false = true → _) ∧ _); refine if_F ?_)
  | ((with_reducible show ((!true) = true → _) ∧ _); refine if_NT ?_)
  | ((with_reducible show ((!false) = true → _) ∧ _); refine if_NF ?_)
  | ((with_reducible show (decide _ = true → _) ∧ _); refine if_dec (fun h => ?_) (fun h => ?_) <;> try (exfalso; first | omega | contradiction))
  | ((with_reducible show ((!decide _) = true → _) ∧ _); refine if_ndec (fun h => ?_) (fun h => ?_) <;> try (exfalso; first | omega | contradiction)))
local macro_rules | `(tactic| walk_at "st") => `(tactic| first | walk_at "st1" | ((show WB _ (_ :: _) _ _ _ _ _ _); refine wb_cons ?_))
local macro_rules | `(tactic| walk_at "cons") => `(tactic| ((show WB _ (_ :: _) _ _ _ _ _ _); refine wb_cons ?_))
local macro_rules | `(tactic| walk_at "go1") => `(tactic| repeat' walk_at "st1")
local macro_rules | `(tactic| walk_at "go") => `(tactic| repeat' walk_at "st")
/-- at most so many numbers in each row -/
def Cnts : Fr → List Nat → Prop
  | [], [] => True
  | r :: f, b :: bs => ((numsF r.2.1 r.2.2).length ≤ b ∧ 1 ≤ b) ∧ Cnts f bs
  | _, _ => False
def prodN (bs : List Nat) : Nat := bs.foldr (· * ·) 1
theorem prod_pos : ∀ {f : Fr} {bs : List Nat}, Cnts f bs → 1 ≤ prodN bs
  | [], [], _ => Nat.le_refl _
  | r :: f, b :: bs, h => Nat.mul_pos h.1.2 (prod_pos h.2)
theorem prod_take : ∀ {f : Fr} {bs : List Nat}, Cnts f bs → ∀ n, ((f.take n).map fun r => (numsF r.2.1 r.2.2).length).foldr (· * ·) 1 ≤ prodN bs
  | [], [], _, n => by rw [List.take_nil]; exact Nat.le_refl _
  | r :: f, b :: bs, h, 0 => prod_pos h
  | r :: f, b :: bs, h, n + 1 => Nat.mul_le_mul h.1.1 (prod_take h.2 n)
/-- a row of that name and numbers, in order behind another one -/
theorem lt_nm {r t : Row} (h : r.1.cps.toList < t.1.cps.toList) (hn : r.1 ≠ t.1) : lexLt (rowK r) (rowK t) = true := by
  rw [rowK_lt, if_neg hn, decide_eq_true h]
theorem lt_nm' {r t : Row} {a b : Str} (h1 : r.1 = a) (h2 : t.1 = b) (h : a.cps.toList < b.cps.toList) (hn : a ≠ b) : lexLt (rowK r) (rowK t) = true := lt_nm (by rw [h1, h2]; exact h) (by rw [h1, h2]; exact hn)
theorem asc_nm {r t : Row} (h : r.1.cps.toList < t.1.cps.toList) (hn : r.1 ≠ t.1) : lexLt (rowK t) (rowK r) = false := NtL.lex_asym _ _ (lt_nm h hn)
theorem cnt_le {lo hi : Int} {b : Nat} (h : hi + 1 - lo ≤ b) : (numsF lo hi).length ≤ b := by rw [numsF_num]; omega
def XRow (r : Row) : Prop := r.1 = "x" ∧ -1 ≤ r.2.1 ∧ r.2.1 ≤ 0 ∧ r.2.1 + 1 ≤ r.2.2 ∧ r.2.2 ≤ r.2.1 + 4
def YRow (r : Row) : Prop := r.1 = "y" ∧ r.2.1 = 0 ∧ 1 ≤ r.2.2 ∧ r.2.2 ≤ 3
def ZRow (r : Row) : Prop := r.1 = "z" ∧ r.2.1 = 0 ∧ 1 ≤ r.2.2 ∧ r.2.2 ≤ 2
def ZZRow (r : Row) : Prop := r.1 = "zz" ∧ r.2.1 = 0 ∧ 1 ≤ r.2.2 ∧ r.2.2 ≤ 2
section
variable {x y z zz : Row} (hx : XRow x) (hy : YRow y) (hz : ZRow z) (hzz : ZZRow zz)
include hx in
theorem nx : x.1 = "x" := hx.1
include hx in
theorem cx : (numsF x.2.1 x.2.2).length ≤ 5 := cnt_le (by have := hx.2; omega)
include hy in
theorem cy : (numsF y.2.1 y.2.2).length ≤ 4 := cnt_le (by have := hy.2; omega)
include hz in
theorem cz : (numsF z.2.1 z.2.2).length ≤ 3 := cnt_le (by have := hz.2; omega)
include hzz in
theorem czz : (numsF zz.2.1 zz.2.2).length ≤ 3 := cnt_le (by have := hzz.2; omega)
include hx in
theorem fx : FrS [x] := by
  have h2 := hx.2
  refine frs_mk (Nat.le_of_ble_eq_true rfl) (Nat.le_of_ble_eq_true rfl) (fun r hr => ?_) ?_ (fun a ha => ?_) (List.pairwise_singleton _ _) fun n => Nat.le_trans (prod_take (f := [x]) (bs := [5]) ⟨⟨cx hx, by decide⟩, trivial⟩ n) (by decide)
  · rw [List.mem_singleton.mp hr]; omega
  · show [x.1].Nodup
    rw [hx.1]; decide +kernel
  · have ha : a ∈ [x.1] := ha
    rw [hx.1] at ha
    rw [List.mem_singleton.mp ha]; decide +kernel
include hx hy in
theorem fxy : FrS [x, y] := by
  have h2 := hx.2
  have h3 := hy.2
  refine frs_mk (Nat.le_of_ble_eq_true rfl) (Nat.le_of_ble_eq_true rfl) (fun r hr => ?_) ?_ (fun a ha => ?_) ?_ fun n => Nat.le_trans (prod_take (f := [x, y]) (bs := [5, 4]) ⟨⟨cx hx, by decide⟩, ⟨cy hy, by decide⟩, trivial⟩ n) (by decide)
  · simp only [List.mem_cons, List.mem_nil_iff, or_false] at hr
    rcases hr with rfl | rfl <;> omega
  · show [x.1, y.1].Nodup
    rw [hx.1, hy.1]; decide +kernel
  · have ha : a ∈ [x.1, y.1] := ha
    rw [hx.1, hy.1] at ha
    simp only [List.mem_cons, List.mem_nil_iff, or_false] at ha
    rcases ha with rfl | rfl <;> decide +kernel
  · refine List.pairwise_cons.mpr ⟨fun t ht => ?_, List.pairwise_singleton _ _⟩
    rw [List.mem_singleton.mp ht]
    exact asc_nm (by rw [hx.1, hy.1]; decide +kernel) (by rw [hx.1, hy.1]; decide +kernel)
include hx hz in
theorem fxz : FrS [x, z] := by
  have h2 := hx.2
  have h3 := hz.2
  refine frs_mk (Nat.le_of_ble_eq_true rfl) (Nat.le_of_ble_eq_true rfl) (fun r hr => ?_) ?_ (fun a ha => ?_) ?_ fun n => Nat.le_trans (prod_take (f := [x, z]) (bs := [5, 3]) ⟨⟨cx hx, by decide⟩, ⟨cz hz, by decide⟩, trivial⟩ n) (by decide)
  · simp only [List.mem_cons, List.mem_nil_iff, or_false] at hr
    rcases hr with rfl | rfl <;> omega
  · show [x.1, z.1].Nodup
    rw [hx.1, hz.1]; decide +kernel
  · have ha : a ∈ [x.1, z.1] := ha
    rw [hx.1, hz.1] at ha
    simp only [List.mem_cons, List.mem_nil_iff, or_false] at ha
    rcases ha with rfl | rfl <;> decide +kernel
  · refine List.pairwise_cons.mpr ⟨fun t ht => ?_, List.pairwise_singleton _ _⟩
    rw [List.mem_singleton.mp ht]
    exact asc_nm (by rw [hx.1, hz.1]; decide +kernel) (by rw [hx.1, hz.1]; decide +kernel)
include hx hy hz in
theorem fxyz : FrS [x, y, z] := by
  have h2 := hx.2
  have h3 := hy.2
  have h4 := hz.2
  refine frs_mk (Nat.le_of_ble_eq_true rfl) (Nat.le_of_ble_eq_true rfl) (fun r hr => ?_) ?_ (fun a ha => ?_) ?_ fun n => Nat.le_trans (prod_take (f := [x, y, z]) (bs := [5, 4, 3]) ⟨⟨cx hx, by decide⟩, ⟨cy hy, by decide⟩, ⟨cz hz, by decide⟩, trivial⟩ n) (by decide)
  · simp only [List.mem_cons, List.mem_nil_iff, or_false] at hr
    rcases hr with rfl | rfl | rfl <;> omega
  · show [x.1, y.1, z.1].Nodup
    rw [hx.1, hy.1, hz.1]; decide +kernel
  · have ha : a ∈ [x.1, y.1, z.1] := ha
    rw [hx.1, hy.1, hz.1] at ha
    simp only [List.mem_cons, List.mem_nil_iff, or_false] at ha
    rcases ha with rfl | rfl | rfl <;> decide +kernel
  · refine List.pairwise_cons.mpr ⟨fun t ht => ?_, List.pairwise_cons.mpr ⟨fun t ht => ?_, List.pairwise_singleton _ _⟩⟩
    · simp only [List.mem_cons, List.mem_nil_iff, or_false] at ht
      rcases ht with rfl | rfl
      · exact asc_nm (by rw [hx.1, hy.1]; decide +kernel) (by rw [hx.1, hy.1]; decide +kernel)
      · exact asc_nm (by rw [hx.1, hz.1]; decide +kernel) (by rw [hx.1, hz.1]; decide +kernel)
    · rw [List.mem_singleton.mp ht]
      exact asc_nm (by rw [hy.1, hz.1]; decide +kernel) (by rw [hy.1, hz.1]; decide +kernel)
include hx hz hzz in
theorem fxzz : FrS [x, z, zz] := by
  have h2 := hx.2
  have h3 := hz.2
  have h4 := hzz.2
  refine frs_mk (Nat.le_of_ble_eq_true rfl) (Nat.le_of_ble_eq_true rfl) (fun r hr => ?_) ?_ (fun a ha => ?_) ?_ fun n => Nat.le_trans (prod_take (f := [x, z, zz]) (bs := [5, 3, 3]) ⟨⟨cx hx, by decide⟩, ⟨cz hz, by decide⟩, ⟨czz hzz, by decide⟩, trivial⟩ n) (by decide)
  · simp only [List.mem_cons, List.mem_nil_iff, or_false] at hr
    rcases hr with rfl | rfl | rfl <;> omega
  · show [x.1, z.1, zz.1].Nodup
    rw [hx.1, hz.1, hzz.1]; decide +kernel
  · have ha : a ∈ [x.1, z.1, zz.1] := ha
    rw [hx.1, hz.1, hzz.1] at ha
    simp only [List.mem_cons, List.mem_nil_iff, or_false] at ha
    rcases ha with rfl | rfl | rfl <;> decide +kernel
  · refine List.pairwise_cons.mpr ⟨fun t ht => ?_, List.pairwise_cons.mpr ⟨fun t ht => ?_, List.pairwise_singleton _ _⟩⟩
    · simp only [List.mem_cons, List.mem_nil_iff, or_false] at ht
      rcases ht with rfl | rfl
      · exact asc_nm (by rw [hx.1, hz.1]; decide +kernel) (by rw [hx.1, hz.1]; decide +kernel)
      · exact asc_nm (by rw [hx.1, hzz.1]; decide +kernel) (by rw [hx.1, hzz.1]; decide +kernel)
    · rw [List.mem_singleton.mp ht]
      exact asc_nm (by rw [hz.1, hzz.1]; decide +kernel) (by rw [hz.1, hzz.1]; decide +kernel)
end
theorem ins_last {r q : Row} (h : lexLt (rowK q) (rowK r) = true) : insF r [q] = [q, r] := by unfold insF; rw [if_pos h]; rfl
theorem ins_last2 {r q t : Row} (h : lexLt (rowK q) (rowK r) = true) (h2 : lexLt (rowK t) (rowK r) = true) : insF r [q, t] = [q, t, r] := by unfold insF; rw [if_pos h, ins_last h2]
theorem varwf_mk {fr : Fr} {r : Row} (h1 : FrS fr) (h2 : FrS (insF r fr)) (hn : r.1 ∉ namesF fr) (hl : r.2.1 ≤ r.2.2) (hg : GenNm r.1) (hc : (numsF r.2.1 r.2.2).length ≤ 100) : VarWf fr r := ⟨⟨h1.ok, h2.ok, h1.asc, hn, h1.one, hc⟩, hl, hg⟩
theorem frc_xz {x z : Row} (hx : XRow x) (hz : ZRow z) : FrC 1 [x, z] := by
  refine ⟨fxz hx hz, fun _ hi h1 h2 => ?_⟩
  have e : vname [x, z] = "zz" := if_pos hz.1
  rw [e]
  have hzz : ZZRow (("zz", 0, hi) : Row) := ⟨rfl, rfl, h1, h2⟩
  have ei : insF (("zz", 0, hi) : Row) [x, z] = [x, z, ("zz", 0, hi)] := ins_last2 (lt_nm' hx.1 hzz.1 (by decide +kernel) (by decide +kernel)) (lt_nm' hz.1 hzz.1 (by decide +kernel) (by decide +kernel))
  refine ⟨varwf_mk (fxz hx hz) (by rw [ei]; exact fxzz hx hz hzz) ?_ (show 0 ≤ hi by omega) (by show GenNm "zz"; decide +kernel) (Nat.le_trans (czz hzz) (by decide)), by rw [ei]; exact fxzz hx hz hzz⟩
  show ("zz" : Str) ∉ [x.1, z.1]
  rw [hx.1, hz.1]; decide +kernel
theorem frc_x {x : Row} (hx : XRow x) : FrC 2 [x] := by
  refine ⟨fx hx, fun _ hi h1 h2 => ?_⟩
  have e : vname [x] = "z" := rfl
  rw [e]
  have hz : ZRow (("z", 0, hi) : Row) := ⟨rfl, rfl, h1, h2⟩
  have ei : insF (("z", 0, hi) : Row) [x] = [x, ("z", 0, hi)] := ins_last (lt_nm' hx.1 hz.1 (by decide +kernel) (by decide +kernel))
  refine ⟨varwf_mk (fx hx) (by rw [ei]; exact fxz hx hz) ?_ (show 0 ≤ hi by omega) (by show GenNm "z"; decide +kernel) (Nat.le_trans (cz hz) (by decide)), by rw [ei]; exact frc_xz hx hz⟩
  show ("z" : Str) ∉ [x.1]
  rw [hx.1]; decide +kernel
theorem frc_xy {x y : Row} (hx : XRow x) (hy : YRow y) : FrC 2 [x, y] := by
  refine ⟨fxy hx hy, fun _ hi h1 h2 => ?_⟩
  have e : vname [x, y] = "z" := if_neg (by rw [hy.1]; decide +kernel)
  rw [e]
  have hz : ZRow (("z", 0, hi) : Row) := ⟨rfl, rfl, h1, h2⟩
  have ei : insF (("z", 0, hi) : Row) [x, y] = [x, y, ("z", 0, hi)] := ins_last2 (lt_nm' hx.1 hz.1 (by decide +kernel) (by decide +kernel)) (lt_nm' hy.1 hz.1 (by decide +kernel) (by decide +kernel))
  refine ⟨varwf_mk (fxy hx hy) (by rw [ei]; exact fxyz hx hy hz) ?_ (show 0 ≤ hi by omega) (by show GenNm "z"; decide +kernel) (Nat.le_trans (cz hz) (by decide)), by rw [ei]; exact ⟨fxyz hx hy hz, fun h => absurd h (Nat.not_le_of_lt (Nat.le_of_ble_eq_true rfl))⟩⟩
  show ("z" : Str) ∉ [x.1, y.1]
  rw [hx.1, hy.1]; decide +kernel
section
variable {P : Program} {w : World} {K : PySem.W.Frag} {mg : Str → Option Value} {base : Heap} {f : Addr} {fd : FuncData}
def HFrame (P : Program) (w : World) (K : PySem.W.Frag) (mg : Str → Option Value) (base : Heap) : Prop := HGen P w K mg base "_law_frame" 2 [] fun d => ∃ fr : Fr, FrC 2 fr ∧ fr.length ≤ 2 ∧ d = frD fr
theorem low_le {a : Nat} : -1 ≤ lowG a ∧ lowG a ≤ 0 := by unfold lowG; split <;> omega
theorem gen_frame (h : Has P w K mg base "_law_frame" 2 1 RFrame) : HFrame P w K mg base := gen_of h rfl fun dr o0 p n hdr hw => by
  refine ⟨_, _, ⟨dr, o0, p, n, hdr, hw, rfl, rfl, rfl, rfl⟩, (frameG dr n).1, ?_⟩
  have hl := low_le (a := nxt dr n 3)
  have h4 := nxt_lt (dr := dr) (n := n + 1) (m := 4) (by decide)
  have h3 := nxt_lt (dr := dr) (n := n + 3) (m := 3) (by decide)
  have hx : XRow (("x", lowG (nxt dr n 3), lowG (nxt dr n 3) + 1 + (nxt dr (n + 1) 4 : Int)) : Row) := ⟨rfl, hl.1, hl.2, by show lowG (nxt dr n 3) + 1 ≤ lowG (nxt dr n 3) + 1 + (nxt dr (n + 1) 4 : Int); omega, by show lowG (nxt dr n 3) + 1 + (nxt dr (n + 1) 4 : Int) ≤ lowG (nxt dr n 3) + 4; omega⟩
  unfold frameG
  split
  · have hy : YRow (("y", 0, 1 + (nxt dr (n + 3) 3 : Int)) : Row) := ⟨rfl, rfl, by show (1 : Int) ≤ 1 + (nxt dr (n + 3) 3 : Int); omega, by show 1 + (nxt dr (n + 3) 3 : Int) ≤ 3; omega⟩
    exact ⟨frc_xy hx hy, Nat.le_of_ble_eq_true rfl, rfl⟩
  · exact ⟨frc_x hx, Nat.le_of_ble_eq_true rfl, rfl⟩
end
end J
end

section
set_option Elab.async false
set_option maxHeartbeats 0
set_option linter.all false
set_option maxRecDepth 100000
/-! _law_same -/
namespace J
open PySem PySem.Spec PyProof.Rows L2
local macro_rules | `(tactic| walk_at "vis") => `(tactic| first | exact Or.inl rfl | exact Or.inr (Or.inl rfl) | exact Or.inr (Or.inr rfl))
local macro_rules | `(tactic| walk_at "loc") => `(tactic| first | exact Or.inl rfl | exact Or.inr rfl)
local macro_rules | `(tactic| walk_at "var") => `(tactic| first
  | exact re_v 0 rfl rfl (by walk_at "vis") | exact re_v 1 rfl rfl (by walk_at "vis") | exact re_v 2 rfl rfl (by walk_at "vis") | exact re_v 3 rfl rfl (by walk_at "vis")
  | exact re_v 4 rfl rfl (by walk_at "vis") | exact re_v 5 rfl rfl (by walk_at "vis") | exact re_v 6 rfl rfl (by walk_at "vis") | exact re_v 7 rfl rfl (by walk_at "vis")
  | exact re_v 8 rfl rfl (by walk_at "vis") | exact re_v 9 rfl rfl (by walk_at "vis") | exact re_v 10 rfl rfl (by walk_at "vis") | exact re_v 11 rfl rfl (by walk_at "vis")
  | exact re_v 12 rfl rfl (by walk_at "vis") | exact re_v 13 rfl rfl (by walk_at "vis") | exact re_v 14 rfl rfl (by walk_at "vis") | exact re_v 15 rfl rfl (by walk_at "vis")
  | exact re_v 16 rfl rfl (by walk_at "vis") | exact re_v 17 rfl rfl (by walk_at "vis") | exact re_v 18 rfl rfl (by walk_at "vis") | exact re_v 19 rfl rfl (by walk_at "vis"))
local macro_rules | `(tactic| walk_at "ix") => `(tactic| first | exact ix_tupD rfl | exact ix_lstD rfl | exact ix_wtD rfl)
local macro_rules | `(tactic| walk_at "len") => `(tactic| first | exact Nat.le_of_ble_eq_true rfl | assumption | (simp; done) | (simp; omega))
local macro_rules | `(tactic| walk_at "ra") => `(tactic| first | ((with_reducible show RA _ [] _ _ _ _); exact ra_nil) | ((with_reducible show RA _ (_ :: _) _ _ _ _); exact ra_cons (by walk_at "ev") (by walk_at "ra")))
local macro_rules | `(tactic| walk_at "bin") => `(tactic| first | exact bin_addI | exact bin_subI | exact bin_addT (by walk_at "len") | exact bin_addL (by walk_at "len") | exact bin_mulI (Or.inr ⟨by decide, by decide⟩) | exact bin_mulI (Or.inl ⟨by decide, by decide⟩) | exact bin_modI (by decide) | exact bin_divW ⟨by decide, by decide⟩ | exact bin_pow ⟨by decide, by decide, by decide⟩)
local macro_rules | `(tactic| walk_at "ev") => `(tactic| first
  | ((with_reducible show RE _ (Expr.Name _ _) _ _ _ _); walk_at "var")
  | ((with_reducible show RE _ (Expr.Constant _ _ _) _ _ _ _); first | exact re_int | exact re_str | exact re_bl | exact re_non)
  | ((with_reducible show RE _ (Expr.Tuple _ _ _) _ _ _ _); exact re_tup (by walk_at "ra") (by walk_at "len"))
  | ((with_reducible show RE _ (Expr.List _ _) _ _ _ _); exact re_lst (by walk_at "ra") (by walk_at "len"))
  | ((with_reducible show RE _ (Expr.Subscript _ _ _) _ _ _ _); exact re_sub (by walk_at "ev") (by walk_at "ev") (by walk_at "ix"))
  | ((with_reducible show RE _ (Expr.BinOp _ _ _ _) _ _ _ _); exact re_bin (by walk_at "ev") (by walk_at "ev") (by walk_at "bin"))
  | assumption)
local macro_rules | `(tactic| walk_at "cmp") => `(tactic| first | exact cmp_ltI | exact cmp_leI | exact cmp_gtI | exact cmp_geI | exact cmp_eqI | exact cmp_neI | exact cmp_eqS | exact cmp_neS | exact cmp_eqB | exact cmp_neB | exact cmp_isNn | exact cmp_isNt | exact cmp_notNn | exact cmp_notNt | exact cmp_isN' | exact cmp_notN' | exact cmp_inSt (J.Room.u65 (by assumption)) .tup | exact cmp_inSt (J.Room.u65 (by assumption)) .lst | exact cmp_ninSt (J.Room.u65 (by assumption)) .tup | exact cmp_ninSt (J.Room.u65 (by assumption)) .lst | exact cmp_eqNil (J.Room.u0 (by assumption)) .lst | exact cmp_neNil (J.Room.u0 (by assumption)) .lst)
local macro_rules | `(tactic| walk_at "norm") => `(tactic| first | refine wb_as1 rfl ?_ | refine wb_as2 rfl ?_ | refine wb_as3 rfl ?_ | refine wb_as4 rfl ?_ | refine wb_as5 rfl ?_ | refine wb_as6 rfl ?_ | refine wb_as7 rfl ?_ | refine wb_as8 rfl ?_ | refine wb_as9 rfl ?_ | refine wb_as10 rfl ?_ | refine wb_as11 rfl ?_ | refine wb_as12 rfl ?_ | refine wb_as13 rfl ?_ | refine wb_as14 rfl ?_ | refine wb_as15 rfl ?_ | refine wb_as16 rfl ?_ | refine wb_as17 rfl ?_ | refine wb_as18 rfl ?_ | refine wb_as19 rfl ?_ | refine wb_as20 rfl ?_ | refine wb_as21 rfl ?_ | refine wb_as22 rfl ?_ | refine wb_as23 rfl ?_ | refine wb_as24 rfl ?_ | refine wb_as25 rfl ?_ | refine wb_as26 rfl ?_ | refine wb_as27 rfl ?_ | refine wb_as28 rfl ?_)
local macro_rules | `(tactic| walk_at "nd") => `(tactic| assumption)
local macro_rules | `(tactic| walk_at "blt") => `(tactic| first
  | ((with_reducible show REG _ (Expr.Call (Expr.Name "tuple" _) _ _ _) _ _ _); refine w_tuple (by assumption) ?_)
  | ((with_reducible show REG _ (Expr.Call (Expr.Name "len" _) _ _ _) _ _ _); refine w_len (by assumption) ?_)
  | ((with_reducible show REG _ (Expr.Call (Expr.Name "sorted" _) [Expr.Name _ _] _ _) _ _ _); refine w_sorted (by assumption) ?_)
  | ((with_reducible show REG _ (Expr.Call (Expr.Name "sorted" _) [Expr.BinOp _ _ _ _] _ _) _ _ _); refine w_sorted (by assumption) ?_)
  | ((with_reducible show REG _ (Expr.Call (Expr.Name "list" _) _ _ _) _ _ _); refine w_list (by assumption) ?_)
  | ((with_reducible show REG _ (Expr.Call (Expr.Name "dict" _) _ _ _) _ _ _); refine w_dict (by assumption) ?_)
  | ((with_reducible show REG _ (Expr.Call (Expr.Name "int" _) _ _ _) _ _ _); refine w_intB (by assumption) ?_)
  | ((with_reducible show REG _ (Expr.Call (Expr.Name "all" _) _ _ _) _ _ _); refine w_all (by assumption) ?_)
  | ((with_reducible show REG _ (Expr.Call (Expr.Name "any" _) _ _ _) _ _ _); refine w_any (by assumption) ?_)
  | ((with_reducible show REG _ (Expr.Call (Expr.Name "min" _) _ _ _) _ _ _); refine w_min (by assumption) ?_)
  | ((with_reducible show REG _ (Expr.Call (Expr.Name "max" _) _ _ _) _ _ _); refine w_max (by assumption) ?_)
  | ((with_reducible show REG _ (Expr.Call (Expr.Name "abs" _) _ _ _) _ _ _); refine w_abs (by assumption) ?_)
  | ((with_reducible show REG _ (Expr.Call (Expr.Name "isinstance" _) _ _ _) _ _ _); refine w_isi (by assumption) ?_)
  | ((with_reducible show REG _ (Expr.Call (Expr.Name "sum" _) _ _ _) _ _ _); refine w_sum (by assumption) ?_))
local macro_rules | `(tactic| walk_at "isi") => `(tactic| first
  | ((with_reducible show BltD _ _ _ [D.int _, _] _); first | exact isi_int_int | exact isi_int_bool | exact isi_int_str | exact isi_int_dict | exact isi_int_tuple | exact isi_int_list)
  | ((with_reducible show BltD _ _ _ [D.bl _, _] _); first | exact isi_bl_int | exact isi_bl_bool | exact isi_bl_str | exact isi_bl_dict | exact isi_bl_tuple | exact isi_bl_list)
  | ((with_reducible show BltD _ _ _ [D.str _, _] _); first | exact isi_str_int | exact isi_str_bool | exact isi_str_str | exact isi_str_dict | exact isi_str_tuple | exact isi_str_list)
  | ((with_reducible show BltD _ _ _ [D.non, _] _); first | exact isi_non_int | exact isi_non_bool | exact isi_non_str | exact isi_non_dict | exact isi_non_tuple | exact isi_non_list)
  | ((with_reducible show BltD _ _ _ [D.tup _, _] _); first | exact isi_tup_int | exact isi_tup_bool | exact isi_tup_str | exact isi_tup_dict | exact isi_tup_tuple | exact isi_tup_list)
  | ((with_reducible show BltD _ _ _ [D.lst _, _] _); first | exact isi_lst_int | exact isi_lst_bool | exact isi_lst_str | exact isi_lst_dict | exact isi_lst_tuple | exact isi_lst_list)
  | ((with_reducible show BltD _ _ _ [D.dT _, _] _); first | exact isi_dT_int | exact isi_dT_bool | exact isi_dT_str | exact isi_dT_dict | exact isi_dT_tuple | exact isi_dT_list)
  | ((with_reducible show BltD _ _ _ [D.dK _, _] _); first | exact isi_dK_int | exact isi_dK_bool | exact isi_dK_str | exact isi_dK_dict | exact isi_dK_tuple | exact isi_dK_list))
local macro_rules | `(tactic| walk_at "tyn") => `(tactic| first
  | ((with_reducible show REG _ (Expr.Name "int" _) _ _ _); refine w_ty_int (by assumption) ?_)
  | ((with_reducible show REG _ (Expr.Name "bool" _) _ _ _); refine w_ty_bool (by assumption) ?_)
  | ((with_reducible show REG _ (Expr.Name "str" _) _ _ _); refine w_ty_str (by assumption) ?_)
  | ((with_reducible show REG _ (Expr.Name "dict" _) _ _ _); refine w_ty_dict (by assumption) ?_)
  | ((with_reducible show REG _ (Expr.Name "tuple" _) _ _ _); refine w_ty_tuple (by assumption) ?_)
  | ((with_reducible show REG _ (Expr.Name "list" _) _ _ _); refine w_ty_list (by assumption) ?_))
local macro_rules | `(tactic| walk_at "args") => `(tactic| first | rfl | (simp only [List.cons.injEq, D.int.injEq, and_true, true_and]; omega))
local macro_rules | `(tactic| walk_at "call") => `(tactic| fail)
local macro_rules | `(tactic| walk_at "st1") => `(tactic| first
  | ((with_reducible show REG _ (Expr.Name _ _) _ _ _); first | walk_at "tyn" | walk_at "name")
  | ((with_reducible show REG _ (Expr.Constant _ _ _) _ _ _); first | refine w_int ?_ | refine w_str ?_ | refine w_bl ?_ | refine w_non ?_)
  | ((with_reducible show REG _ (Expr.Tuple _ _ _) _ _ _); refine w_tup ?_)
  | ((with_reducible show REG _ (Expr.List _ _) _ _ _); refine w_lst ?_)
  | ((with_reducible show REG _ (Expr.Subscript _ _ _) _ _ _); refine w_sub ?_)
  | ((with_reducible show REG _ (Expr.BinOp _ _ _ _) _ _ _); refine w_bin ?_)
  | ((with_reducible show REG _ (Expr.Compare _ _ _ _) _ _ _); refine w_cmp ?_)
  | ((with_reducible show REG _ (Expr.UnaryOp _ _ _) _ _ _); first | refine w_not ?_ | refine w_neg ?_)
  | ((with_reducible show REG _ (Expr.IfExp _ _ _ _) _ _ _); refine w_ifE ?_)
  | ((with_reducible show REG _ (Expr.BoolOp _ _ _) _ _ _); first | refine w_one ?_ | refine w_and ?_ | refine w_or ?_)
  | ((with_reducible show REG _ (Expr.Call (Expr.Attribute (Expr.Name _ _) "append" _) _ _ _) _ _ _); refine w_appendH (by assumption) (by walk_at "var") ?_)
  | ((with_reducible show _ = _ ∧ List.length _ ≤ 100000 ∧ _); refine ⟨rfl, by walk_at "len", ?_⟩)
  | ((with_reducible show REG _ (Expr.Call _ _ _ _) _ _ _); walk_at "call")
  | ((with_reducible show REG _ (Expr.Call (Expr.Name _ _) _ _ _) _ _ _); walk_at "blt")
  | ((with_reducible show ∃ d, BltD _ "len" _ _ d ∧ _); first | refine ⟨_, blt_len .tup, ?_⟩ | refine ⟨_, blt_len .lst, ?_⟩)
  | ((with_reducible show ∃ d, BltD _ "isinstance" _ _ d ∧ _); refine ⟨_, (by walk_at "isi"), ?_⟩)
  | ((with_reducible show ∃ d, BltD _ "abs" _ _ d ∧ _); refine ⟨_, blt_abs, ?_⟩)
  | ((with_reducible show ∃ d, TyD _ "int" _ _ d ∧ _); refine ⟨_, ty_int, ?_⟩)
  | ((with_reducible show ∃ d, TyD _ "tuple" _ _ d ∧ _); first | refine ⟨_, ty_tuple, ?_⟩ | refine ⟨_, ty_tupleT, ?_⟩)
  | ((with_reducible show RAG _ [] _ _ _); refine wa_nil ?_)
  | ((with_reducible show RAG _ (_ :: _) _ _ _); refine wa_cons ?_)
  | ((with_reducible show RTG _ (Expr.Compare _ _ _ _) _ _ _); refine wt_cmp ?_)
  | ((with_reducible show RTG _ (Expr.UnaryOp _ _ _) _ _ _); refine wt_not ?_)
  | ((with_reducible show RTG _ (Expr.BoolOp _ _ _) _ _ _); refine wt_w ?_)
  | ((with_reducible show RTG _ (Expr.Name _ _) _ _ _); refine wt_val ?_)
  | ((with_reducible show RTG _ (Expr.Call _ _ _ _) _ _ _); refine wt_val ?_)
  | ((with_reducible show RWG _ (Expr.BoolOp _ _ _) _ _ _); first | refine ww_and1 ?_ | refine ww_or1 ?_ | refine ww_and ?_ | refine ww_or ?_)
  | ((with_reducible show WS _ (Stmt.Assign [Expr.Name _ _] _ _) _ _ _ _ _ _); walk_at "set")
  | ((with_reducible show WS _ (Stmt.Return (some _) _) _ _ _ _ _ _); refine ws_ret ?_)
  | ((with_reducible show WS _ (Stmt.Return none _) _ _ _ _ _ _); refine ws_retN ?_)
  | ((with_reducible show WS _ (Stmt.Expr _ _) _ _ _ _ _ _); refine ws_expr ?_)
  | ((with_reducible show WS _ (Stmt.If _ _ _ _) _ _ _ _ _ _); refine ws_if ?_)
  | ((with_reducible show WS _ (Stmt.Pass _) _ _ _ _ _ _); refine ws_pass ?_)
  | ((with_reducible show WS _ (Stmt.Break _) _ _ _ _ _ _); refine ws_break ?_)
  | ((with_reducible show WS _ (Stmt.Continue _) _ _ _ _ _ _); refine ws_continue ?_)
  | ((with_reducible show WB _ _ (List.set _ _ _) _ _ _ _ _); walk_at "norm")
  | ((with_reducible show WB _ _ (startG _ _) _ _ _ _ _); walk_at "norm")
  | ((with_reducible show WB _ [] _ _ _ _ _ _); refine wb_nil ?_)
  | ((with_reducible show (List.length _ ≤ 100000 ∧ _)); refine ⟨by walk_at "len", ?_⟩)
  | refine ⟨_, (by walk_at "bin" : BinD _ _ _ _ _ _), ?_⟩
  | refine ⟨_, (by walk_at "cmp" : CmpD _ _ _ _ _ _), ?_⟩
  | refine ⟨_, (by walk_at "ix" : IxD _ _ _ _ _), ?_⟩
  | refine ix2 (by omega) (by omega) (fun h => ?_) (fun h => ?_)
  | refine ix3 (by omega) (by omega) (fun h => ?_) (fun h => ?_) (fun h => ?_)
  | ((with_reducible show ∃ k, (D.bl _ = D.bl k) ∧ _); refine ⟨_, rfl, ?_⟩)
  | ((with_reducible show ∃ k, (D.int _ = D.int k) ∧ _); refine ⟨_, rfl, ?_⟩)
  | ((with_reducible show (true = true → _) ∧ _); refine if_T ?_)
  | ((with_reducible show (false = true → _) ∧ _); refine if_F ?_)
  | ((with_reducible show ((!true) = true → _) ∧ _); refine if_NT ?_)
  | ((with_reducible show ((!false) = true → _) ∧ _); refine if_NF ?_)
  | ((with_reducible show (decide _ = true → _) ∧ _); refine if_dec (fun h => ?_) (fun h => ?_) <;> try (exfalso; first | omega | contradiction))
  | ((with_reducible show ((!decide _) = true → _) ∧ _); refine if_ndec (fun h => ?_) (fun h => ?_) <;> try (exfalso; first | omega | contradiction)))
local macro_rules | `(tactic| walk_at "st") => `(tactic| first | walk_at "st1" | ((show WB _ (_ :: _) _ _ _ _ _ _); refine wb_cons ?_))
local macro_rules | `(tactic| walk_at "cons") => `(tactic| ((show WB _ (_ :: _) _ _ _ _ _ _); refine wb_cons ?_))
local macro_rules | `(tactic| walk_at "go1") => `(tactic| repeat' walk_at "st1")
local macro_rules | `(tactic| walk_at "go") => `(tactic| repeat' walk_at "st")
mutual
def wtD : D → Nat
  | .tup ds => 1 + wtL ds
  | .dT kvs => 1 + wtT kvs
  | _ => 1
def wtL : List D → Nat
  | [] => 0
  | d :: ds => wtD d + wtL ds
def wtT : List (List Key × D) → Nat
  | [] => 0
  | kv :: ds => wtD kv.2 + wtT ds
end
theorem wtD_pos : ∀ d : D, 1 ≤ wtD d := fun d => by cases d <;> simp [wtD]
theorem wtL_append : ∀ a b : List D, wtL (a ++ b) = wtL a + wtL b
  | [], b => by rw [List.nil_append, wtL, Nat.zero_add]
  | d :: a, b => by rw [List.cons_append, wtL, wtL, wtL_append a b, Nat.add_assoc]
theorem wtL_len : ∀ a : List D, a.length ≤ wtL a
  | [] => Nat.zero_le _
  | d :: a => by rw [wtL, List.length_cons]; have := wtD_pos d; have := wtL_len a; omega
/-- whether two values are the same, part by part -/
inductive Same : D → D → Prop
  | non : Same .non .non
  | bl (b : Bool) : Same (.bl b) (.bl b)
  | int (i : Int) : Same (.int i) (.int i)
  | str (x : Str) : NmOk x → Same (.str x) (.str x)
  | tup (ds es : List D) : ds.length = es.length → (∀ (i : Nat) (a b : D), ds[i]? = some a → es[i]? = some b → Same a b) → Same (.tup ds) (.tup es)
theorem zip_pairs {ds es : List D} (hl : ds.length = es.length) : ((List.range es.length).filter fun _ => true).map (fun i => D.tup [ds.getD i .non, es.getD i .non]) = (ds.zip es).map fun p => D.tup [p.1, p.2] := by
  rw [List.filter_eq_self.mpr (fun _ _ => rfl)]
  apply List.ext_getElem?
  intro i
  rw [List.getElem?_map, List.getElem?_map]
  by_cases c : i < es.length
  · have e1 : ds[i]? = some (ds.getD i .non) := by rw [List.getD_eq_getElem?_getD, List.getElem?_eq_getElem (by omega)]; rfl
    have e2 : es[i]? = some (es.getD i .non) := by rw [List.getD_eq_getElem?_getD, List.getElem?_eq_getElem (by omega)]; rfl
    have e3 : (ds.zip es)[i]? = some (ds.getD i .non, es.getD i .non) := List.getElem?_zip_eq_some.mpr ⟨e1, e2⟩
    rw [List.getElem?_range c, e3]
    rfl
  · rw [List.getElem?_eq_none (by rw [List.length_range]; omega), List.getElem?_eq_none (by rw [List.length_zip]; omega)]; rfl
section
variable {P : Program} {w : World} {K : PySem.W.Frag} {mg : Str → Option Value} {base : Heap} {f : Addr} {fd : FuncData}
abbrev prD (p : D × D) : D := .tup [p.1, p.2]
def RSame : List D → Own → D → Own → Prop := fun ds o d o' => ∃ a b, Same a b ∧ wtD b ≤ 100000 ∧ ds = [a, b] ∧ d = .bl true ∧ o' = o
local macro_rules | `(tactic| walk_at "name") => `(tactic| first
  | ((with_reducible show REG _ (Expr.Name "seen" _) _ _ _); refine w_val 0 rfl rfl (by walk_at "vis") ?_)
  | ((with_reducible show REG _ (Expr.Name "due" _) _ _ _); refine w_val 1 rfl rfl (by walk_at "vis") ?_)
  | ((with_reducible show REG _ (Expr.Name "waiting" _) _ _ _); refine w_val 2 rfl rfl (by walk_at "vis") ?_)
  | ((with_reducible show REG _ (Expr.Name "one" _) _ _ _); refine w_val 3 rfl rfl (by walk_at "vis") ?_)
  | ((with_reducible show REG _ (Expr.Name "other" _) _ _ _); refine w_val 4 rfl rfl (by walk_at "vis") ?_)
  | ((with_reducible show REG _ (Expr.Name "key" _) _ _ _); refine w_val 5 rfl rfl (by walk_at "vis") ?_)
  | ((with_reducible show REG _ (Expr.Name "k" _) _ _ _); refine w_val 6 rfl rfl (by walk_at "vis") ?_))
local macro_rules | `(tactic| walk_at "set") => `(tactic| first
  | ((with_reducible show WS _ (Stmt.Assign [Expr.Name "seen" _] _ _) _ _ _ _ _ _); refine ws_set 0 (by walk_at "nd") rfl (by walk_at "loc") ?_)
  | ((with_reducible show WS _ (Stmt.Assign [Expr.Name "due" _] _ _) _ _ _ _ _ _); refine ws_set 1 (by walk_at "nd") rfl (by walk_at "loc") ?_)
  | ((with_reducible show WS _ (Stmt.Assign [Expr.Name "waiting" _] _ _) _ _ _ _ _ _); refine ws_set 2 (by walk_at "nd") rfl (by walk_at "loc") ?_)
  | ((with_reducible show WS _ (Stmt.Assign [Expr.Name "one" _] _ _) _ _ _ _ _ _); refine ws_set 3 (by walk_at "nd") rfl (by walk_at "loc") ?_)
  | ((with_reducible show WS _ (Stmt.Assign [Expr.Name "other" _] _ _) _ _ _ _ _ _); refine ws_set 4 (by walk_at "nd") rfl (by walk_at "loc") ?_)
  | ((with_reducible show WS _ (Stmt.Assign [Expr.Name "key" _] _ _) _ _ _ _ _ _); refine ws_set 5 (by walk_at "nd") rfl (by walk_at "loc") ?_)
  | ((with_reducible show WS _ (Stmt.Assign [Expr.Name "k" _] _ _) _ _ _ _ _ _); refine ws_set 6 (by walk_at "nd") rfl (by walk_at "loc") ?_))
local macro_rules | `(tactic| walk_at "var") => `(tactic| first
  | ((with_reducible show RE _ (Expr.Name "seen" _) _ _ _ _); exact re_v 0 rfl rfl (by walk_at "vis"))
  | ((with_reducible show RE _ (Expr.Name "due" _) _ _ _ _); exact re_v 1 rfl rfl (by walk_at "vis"))
  | ((with_reducible show RE _ (Expr.Name "waiting" _) _ _ _ _); exact re_v 2 rfl rfl (by walk_at "vis"))
  | ((with_reducible show RE _ (Expr.Name "one" _) _ _ _ _); exact re_v 3 rfl rfl (by walk_at "vis"))
  | ((with_reducible show RE _ (Expr.Name "other" _) _ _ _ _); exact re_v 4 rfl rfl (by walk_at "vis"))
  | ((with_reducible show RE _ (Expr.Name "key" _) _ _ _ _); exact re_v 5 rfl rfl (by walk_at "vis"))
  | ((with_reducible show RE _ (Expr.Name "k" _) _ _ _ _); exact re_v 6 rfl rfl (by walk_at "vis")))
theorem has_law_same (F : Fun K "_law_same" "_law_same" s__law_same f fd) (hm : mg "_law_same" = some (.ref f)) (B : Bi mg) : Has P w K mg base "_law_same" 1 2 RSame := by
  refine has_mkW F sc__law_same hm (F.binds fun _ _ _ _ _ _ us hl => match us, hl with | [_, _], _ => rfl) (by rintro _ _ _ _ ⟨a, b, _, _, rfl, _⟩; rfl) fun cdv A outer s0 H E ds o d o' hr hnd hR => ?_
  obtain ⟨a, b, hs, hw, rfl, rfl, rfl⟩ := hR
  have u1 := J.Room.u1 hr
  have u64 := J.Room.u64 hr
  refine wb_dropR ?_
  walk_at "go1"
  walk_at "cons"
  refine ws_set 2 (by walk_at "nd") rfl (by walk_at "loc") (w_lstO ?_)
  walk_at "go1"
  intro q hq
  walk_at "go1"
  walk_at "cons"
  have hA : a = a := rfl
  refine ws_while (fun m γ' o1 => ∃ (W : List (D × D)) (x y z u : Option D), m = wtL (W.map (·.2)) ∧ m ≤ 100000 ∧ (∀ p ∈ W, Same p.1 p.2) ∧ γ' = [some a, some b, some (.adr q), x, y, z, u] ∧ o1 = (q, .lst (W.map prD)) :: o') (wtL [b]) PassesOwn.never ?_ ?_
  · exact ⟨[(a, b)], none, none, none, none, rfl, by rw [wtL, wtL]; omega, fun p hp => by rw [List.mem_singleton.mp hp]; exact hs, rfl, rfl⟩
  · rintro m γ' o1 ⟨W, x, y, z, u, rfl, hm, hW, rfl, rfl⟩
    walk_at "go1"
    refine ⟨_, cmp_neNil (J.Room.u0 hr) (.own List.mem_cons_self), ?_⟩
    rcases List.eq_nil_or_concat W with rfl | ⟨W, ⟨p1, p2⟩, rfl⟩
    · refine if_F ?_
      walk_at "go"
      exact ⟨o', List.sublist_cons_self _ _, rfl, rfl⟩
    · rw [List.concat_eq_append] at hm hW ⊢
      have hp := hW (p1, p2) (List.mem_append_right _ List.mem_cons_self)
      have hW' : ∀ p ∈ W, Same p.1 p.2 := fun p h => hW p (List.mem_append_left _ h)
      have em : (W ++ [(p1, p2)]).map prD = W.map prD ++ [.tup [p1, p2]] := by rw [List.map_append]; rfl
      have e2 : wtL ((W ++ [(p1, p2)]).map (·.2)) = wtL (W.map (·.2)) + wtD p2 := by rw [List.map_append, wtL_append]; rfl
      have hp : Same p1 p2 := hp
      rw [e2] at hm ⊢
      rw [em]
      rw [show (!(W.map prD ++ [D.tup [p1, p2]]).isEmpty) = true by simp]
      refine if_T ?_
      walk_at "cons"
      refine ws_unp (w_lpop (by walk_at "var") List.mem_cons_self ?_)
      refine ⟨_, _, rg_tup rfl (rgs_cons (rg_name 3 hnd rfl (by walk_at "loc")) (rgs_cons (rg_name 4 hnd rfl (by walk_at "loc")) rgs_nil)), ?_⟩
      rw [setO_cons hq]
      have fin : ∀ (V : List (D × D)) (z' u' : Option D), wtL (V.map (·.2)) < wtL (W.map (·.2)) + wtD p2 → (∀ p ∈ V, Same p.1 p.2) → ∃ m', m' < wtL (W.map (·.2)) + wtD p2 ∧ ∃ (W : List (D × D)) (x y z u : Option D), m' = wtL (W.map (·.2)) ∧ m' ≤ 100000 ∧ (∀ p ∈ W, Same p.1 p.2) ∧ [some a, some b, some (.adr q), some p1, some p2, z', u'] = [some a, some b, some (.adr q), x, y, z, u] ∧ (q, D.lst (V.map prD)) :: o' = (q, .lst (W.map prD)) :: o' :=
        fun V z' u' h1 h2 => ⟨_, h1, V, _, _, _, _, rfl, by omega, h2, rfl, rfl⟩
      have hpos := wtD_pos p2
      cases hp with
      | non =>
        walk_at "go"
        refine ⟨_, cmp_neD u64 okNon okNon, ?_⟩
        rw [show (!eqD .non .non) = false from rfl]
        refine if_F ?_
        walk_at "go"
        exact fin W _ _ (by omega) hW'
      | bl b =>
        walk_at "go"
        exact fin W _ _ (by omega) hW'
      | int i =>
        walk_at "go"
        exact fin W _ _ (by omega) hW'
      | str x hx =>
        walk_at "go"
        exact fin W _ _ (by omega) hW'
      | tup ds es hl hh =>
        walk_at "go"
        refine w_extend ?_
        walk_at "go"
        refine ⟨_, rfl, ⟨_, List.mem_cons_self⟩, ?_⟩
        have we : wtD (.tup es) = 1 + wtL es := rfl
        have wl := wtL_len es
        have wl2 := wtL_len (W.map (·.2))
        rw [List.length_map] at wl2
        refine w_l (wl_lcE [("k", 6)] rfl hnd (blkOk_by (N := n__law_same) (sc := defScope s__law_same) (by decide +kernel)) (wi_of (ri_range1 rfl B.range (ra_cons (re_blt B.len (ra_cons (by walk_at "var") ra_nil) (blt_len .tup)) ra_nil) (by omega)) ?_))
        refine lcp_pure (L := List.range es.length) (g := fun i : Nat => D.int (0 + (i : Int))) (fun _ => true) (fun i => D.tup [ds.getD i .non, es.getD i .non]) trivial (by rw [List.length_range]; omega) (fun i hi => ⟨_, _, ?_, fun q => rg_name 6 hnd rfl (by walk_at "loc"), fun q => wts_nil ⟨rfl, rfl⟩, fun _ q => ?_⟩) ?_
        · decide
        · have hi := List.mem_range.mp hi
          have e1 : ds[i]? = some (ds.getD i .non) := by rw [List.getD_eq_getElem?_getD, List.getElem?_eq_getElem (by omega)]; rfl
          have e2 : es[i]? = some (es.getD i .non) := by rw [List.getD_eq_getElem?_getD, List.getElem?_eq_getElem (by omega)]; rfl
          have z : (0 + (i : Int)) = (i : Int) := by omega
          walk_at "go"
          refine ⟨_, ix_tupD (by rw [z]; exact atI_mk e1), ?_⟩
          walk_at "go"
          refine ⟨_, ix_tupD (by rw [z]; exact atI_mk e2), ?_⟩
          walk_at "go"
          exact ⟨rfl, rfl⟩
        · rw [zip_pairs hl]
          refine ⟨_, W.map prD, rfl, List.mem_cons_self, ?_, ?_⟩
          · rw [List.length_map, List.length_map, List.length_zip, hl, Nat.min_self]; omega
          · rw [setO_cons hq, ← List.map_append]
            walk_at "go"
            refine fin (W ++ ds.zip es) _ _ ?_ fun p hp => ?_
            · rw [List.map_append, wtL_append, List.map_snd_zip (by omega)]; omega
            · rcases List.mem_append.mp hp with hp | hp
              · exact hW' p hp
              · obtain ⟨i, hi⟩ := List.mem_iff_getElem?.mp hp
                obtain ⟨x1, x2⟩ := p
                obtain ⟨h1, h2⟩ := List.getElem?_zip_eq_some.mp hi
                exact hh i x1 x2 h1 h2
end
end J
end

section
set_option Elab.async false
set_option maxHeartbeats 0
set_option linter.all false
set_option maxRecDepth 100000
/-! _law_draws -/
namespace J
open PySem PySem.Spec PyProof.Rows L2
local macro_rules | `(tactic| walk_at "vis") => `(tactic| first | exact Or.inl rfl | exact Or.inr (Or.inl rfl) | exact Or.inr (Or.inr rfl))
local macro_rules | `(tactic| walk_at "loc") => `(tactic| first | exact Or.inl rfl | exact Or.inr rfl)
local macro_rules | `(tactic| walk_at "var") => `(tactic| first
  | exact re_v 0 rfl rfl (by walk_at "vis") | exact re_v 1 rfl rfl (by walk_at "vis") | exact re_v 2 rfl rfl (by walk_at "vis") | exact re_v 3 rfl rfl (by walk_at "vis")
  | exact re_v 4 rfl rfl (by walk_at "vis") | exact re_v 5 rfl rfl (by walk_at "vis") | exact re_v 6 rfl rfl (by walk_at "vis") | exact re_v 7 rfl rfl (by walk_at "vis")
  | exact re_v 8 rfl rfl (by walk_at "vis") | exact re_v 9 rfl rfl (by walk_at "vis") | exact re_v 10 rfl rfl (by walk_at "vis") | exact re_v 11 rfl rfl (by walk_at "vis")
  | exact re_v 12 rfl rfl (by walk_at "vis") | exact re_v 13 rfl rfl (by walk_at "vis") | exact re_v 14 rfl rfl (by walk_at "vis") | exact re_v 15 rfl rfl (by walk_at "vis")
  | exact re_v 16 rfl rfl (by walk_at "vis") | exact re_v 17 rfl rfl (by walk_at "vis") | exact re_v 18 rfl rfl (by walk_at "vis") | exact re_v 19 rfl rfl (by walk_at "vis"))
local macro_rules | `(tactic| walk_at "ix") => `(tactic| first | exact ix_tupD rfl | exact ix_lstD rfl | exact ix_wtD rfl)
local macro_rules | `(tactic| walk_at "len") => `(tactic| first | exact Nat.le_of_ble_eq_true rfl | assumption | (simp; done) | (simp; omega))
local macro_rules | `(tactic| walk_at "ra") => `(tactic| first | ((with_reducible show RA _ [] _ _ _ _); exact ra_nil) | ((with_reducible show RA _ (_ :: _) _ _ _ _); exact ra_cons (by walk_at "ev") (by walk_at "ra")))
local macro_rules | `(tactic| walk_at "bin") => `(tactic| first | exact bin_addI | exact bin_subI | exact bin_addT (by walk_at "len") | exact bin_addL (by walk_at "len") | exact bin_mulI (Or.inr ⟨by decide, by decide⟩) | exact bin_mulI (Or.inl ⟨by decide, by decide⟩) | exact bin_modI (by decide) | exact bin_divW ⟨by decide, by decide⟩ | exact bin_pow ⟨by decide, by decide, by decide⟩)
local macro_rules | `(tactic| walk_at "ev") => `(tactic| first
  | ((with_reducible show RE _ (Expr.Name _ _) _ _ _ _); walk_at "var")
  | ((with_reducible show RE _ (Expr.Constant _ _ _) _ _ _ _); first | exact re_int | exact re_str | exact re_bl | exact re_non)
  | ((with_reducible show RE _ (Expr.Tuple _ _ _) _ _ _ _); exact re_tup (by walk_at "ra") (by walk_at "len"))
  | ((with_reducible show RE _ (Expr.List _ _) _ _ _ _); exact re_lst (by walk_at "ra") (by walk_at "len"))
  | ((with_reducible show RE _ (Expr.Subscript _ _ _) _ _ _ _); exact re_sub (by walk_at "ev") (by walk_at "ev") (by walk_at "ix"))
  | ((with_reducible show RE _ (Expr.BinOp _ _ _ _) _ _ _ _); exact re_bin (by walk_at "ev") (by walk_at "ev") (by walk_at "bin"))
  | assumption)
local macro_rules | `(tactic| walk_at "cmp") => `(tactic| first | exact cmp_ltI | exact cmp_leI | exact cmp_gtI | exact cmp_geI | exact cmp_eqI | exact cmp_neI | exact cmp_eqS | exact cmp_neS | exact cmp_eqB | exact cmp_neB | exact cmp_isNn | exact cmp_isNt | exact cmp_notNn | exact cmp_notNt | exact cmp_isN' | exact cmp_notN' | exact cmp_inSt (J.Room.u65 (by assumption)) .tup | exact cmp_inSt (J.Room.u65 (by assumption)) .lst | exact cmp_ninSt (J.Room.u65 (by assumption)) .tup | exact cmp_ninSt (J.Room.u65 (by assumption)) .lst | exact cmp_eqNil (J.Room.u0 (by assumption)) .lst | exact cmp_neNil (J.Room.u0 (by assumption)) .lst)
local macro_rules | `(tactic| walk_at "norm") => `(tactic| first | refine wb_as1 rfl ?_ | refine wb_as2 rfl ?_ | refine wb_as3 rfl ?_ | refine wb_as4 rfl ?_ | refine wb_as5 rfl ?_ | refine wb_as6 rfl ?_ | refine wb_as7 rfl ?_ | refine wb_as8 rfl ?_ | refine wb_as9 rfl ?_ | refine wb_as10 rfl ?_ | refine wb_as11 rfl ?_ | refine wb_as12 rfl ?_ | refine wb_as13 rfl ?_ | refine wb_as14 rfl ?_ | refine wb_as15 rfl ?_ | refine wb_as16 rfl ?_ | refine wb_as17 rfl ?_ | refine wb_as18 rfl ?_ | refine wb_as19 rfl ?_ | refine wb_as20 rfl ?_ | refine wb_as21 rfl ?_ | refine wb_as22 rfl ?_ | refine wb_as23 rfl ?_ | refine wb_as24 rfl ?_ | refine wb_as25 rfl ?_ | refine wb_as26 rfl ?_ | refine wb_as27 rfl ?_ | refine wb_as28 rfl ?_)
local macro_rules | `(tactic| walk_at "nd") => `(tactic| assumption)
local macro_rules | `(tactic| walk_at "blt") => `(tactic| first
  | ((with_reducible show REG _ (Expr.Call (Expr.Name "tuple" _) _ _ _) _ _ _); refine w_tuple (by assumption) ?_)
  | ((with_reducible show REG _ (Expr.Call (Expr.Name "len" _) _ _ _) _ _ _); refine w_len (by assumption) ?_)
  | ((with_reducible show REG _ (Expr.Call (Expr.Name "sorted" _) [Expr.Name _ _] _ _) _ _ _); refine w_sorted (by assumption) ?_)
  | ((with_reducible show REG _ (Expr.Call (Expr.Name "sorted" _) [Expr.BinOp _ _ _ _] _ _) _ _ _); refine w_sorted (by assumption) ?_)
  | ((with_reducible show REG _ (Expr.Call (Expr.Name "list" _) _ _ _) _ _ _); refine w_list (by assumption) ?_)
  | ((with_reducible show REG _ (Expr.Call (Expr.Name "dict" _) _ _ _) _ _ _); refine w_dict (by assumption) ?_)
  | ((with_reducible show REG _ (Expr.Call (Expr.Name "int" _) _ _ _) _ _ _); refine w_intB (by assumption) ?_)
  | ((with_reducible show REG _ (Expr.Call (Expr.Name "all" _) _ _ _) _ _ _); refine w_all (by assumption) ?_)
  | ((with_reducible show REG _ (Expr.Call (Expr.Name "any" _) _ _ _) _ _ _); refine w_any (by assumption) ?_)
  | ((with_reducible show REG _ (Expr.Call (Expr.Name "min" _) _ _ _) _ _ _); refine w_min (by assumption) ?_)
  | ((with_reducible show REG _ (Expr.Call (Expr.Name "max" _) _ _ _) _ _ _); refine w_max (by assumption) ?_)
  | ((with_reducible show REG _ (Expr.Call (Expr.Name "abs" _) _ _ _) _ _ _); refine w_abs (by assumption) ?_)
  | ((with_reducible show REG _ (Expr.Call (Expr.Name "isinstance" _) _ _ _) _ _ _); refine w_isi (by assumption) ?_)
  | ((with_reducible show REG _ (Expr.Call (Expr.Name "sum" _) _ _ _) _ _ _); refine w_sum (by assumption) ?_))
local macro_rules | `(tactic| walk_at "isi") => `(tactic| first
  | ((with_reducible show BltD _ _ _ [D.int _, _] _); first | exact isi_int_int | exact isi_int_bool | exact isi_int_str | exact isi_int_dict | exact isi_int_tuple | exact isi_int_list)
  | ((with_reducible show BltD _ _ _ [D.bl _, _] _); first | exact isi_bl_int | exact isi_bl_bool | exact isi_bl_str | exact isi_bl_dict | exact isi_bl_tuple | exact isi_bl_list)
  | ((with_reducible show BltD _ _ _ [D.str _, _] _); first | exact isi_str_int | exact isi_str_bool | exact isi_str_str | exact isi_str_dict | exact isi_str_tuple | exact isi_str_list)
  | ((with_reducible show BltD _ _ _ [D.non, _] _); first | exact isi_non_int | exact isi_non_bool | exact isi_non_str | exact isi_non_dict | exact isi_non_tuple | exact isi_non_list)
  | ((with_reducible show BltD _ _ _ [D.tup _, _] _); first | exact isi_tup_int | exact isi_tup_bool | exact isi_tup_str | exact isi_tup_dict | exact isi_tup_tuple | exact isi_tup_list)
  | ((with_reducible show BltD _ _ _ [D.lst _, _] _); first | exact isi_lst_int | exact isi_lst_bool | exact isi_lst_str | exact isi_lst_dict | exact isi_lst_tuple | exact isi_lst_list)
  | ((with_reducible show BltD _ _ _ [D.dT _, _] _); first | exact isi_dT_int | exact isi_dT_bool | exact isi_dT_str | exact isi_dT_dict | exact isi_dT_tuple | exact isi_dT_list)
  | ((with_reducible show BltD _ _ _ [D.dK _, _] _); first | exact isi_dK_int | exact isi_dK_bool | exact isi_dK_str | exact isi_dK_dict | exact isi_dK_tuple | exact isi_dK_list))
local macro_rules | `(tactic| walk_at "tyn") => `(tactic| first
  | ((with_reducible show REG _ (Expr.Name "int" _) _ _ _); refine w_ty_int (by assumption) ?_)
  | ((with_reducible show REG _ (Expr.Name "bool" _) _ _ _); refine w_ty_bool (by assumption) ?_)
  | ((with_reducible show REG _ (Expr.Name "str" _) _ _ _); refine w_ty_str (by assumption) ?_)
  | ((with_reducible show REG _ (Expr.Name "dict" _) _ _ _); refine w_ty_dict (by assumption) ?_)
  | ((with_reducible show REG _ (Expr.Name "tuple" _) _ _ _); refine w_ty_tuple (by assumption) ?_)
  | ((with_reducible show REG _ (Expr.Name "list" _) _ _ _); refine w_ty_list (by assumption) ?_))
local macro_rules | `(tactic| walk_at "args") => `(tactic| first | rfl | (simp only [List.cons.injEq, D.int.injEq, and_true, true_and]; omega))
local macro_rules | `(tactic| walk_at "call") => `(tactic| fail)
local macro_rules | `(tactic| walk_at "st1") => `(tactic| first
  | ((with_reducible show REG _ (Expr.Name _ _) _ _ _); first | walk_at "tyn" | walk_at "name")
  | ((with_reducible show REG _ (Expr.Constant _ _ _) _ _ _); first | refine w_int ?_ | refine w_str ?_ | refine w_bl ?_ | refine w_non ?_)
  | ((with_reducible show REG _ (Expr.Tuple _ _ _) _ _ _); refine w_tup ?_)
  | ((with_reducible show REG _ (Expr.List _ _) _ _ _); refine w_lst ?_)
  | ((with_reducible show REG _ (Expr.Subscript _ _ _) _ _ _); refine w_sub ?_)
  | ((with_reducible show REG _ (Expr.BinOp _ _ _ _) _ _ _); refine w_bin ?_)
  | ((with_reducible show REG _ (Expr.Compare _ _ _ _) _ _ _); refine w_cmp ?_)
  | ((with_reducible show REG _ (Expr.UnaryOp _ _ _) _ _ _); first | refine w_not ?_ | refine w_neg ?_)
  | ((with_reducible show REG _ (Expr.IfExp _ _ _ _) _ _ _); refine w_ifE ?_)
  | ((with_reducible show REG _ (Expr.BoolOp _ _ _) _ _ _); first | refine w_one ?_ | refine w_and ?_ | refine w_or ?_)
  | ((with_reducible show REG _ (Expr.Call (Expr.Attribute (Expr.Name _ _) "append" _) _ _ _) _ _ _); refine w_appendH (by assumption) (by walk_at "var") ?_)
  | ((with_reducible show _ = _ ∧ List.length _ ≤ 100000 ∧ _); refine ⟨rfl, by walk_at "len", ?_⟩)
  | ((with_reducible show REG _ (Expr.Call _ _ _ _) _ _ _); walk_at "call")
  | ((with_reducible show REG _ (Expr.Call (Expr.Name _ _) _ _ _) _ _ _); walk_at "blt")
  | ((with_reducible show ∃ d, BltD _ "len" _ _ d ∧ _); first | refine ⟨_, blt_len .tup, ?_⟩ | refine ⟨_, blt_len .lst, ?_⟩)
  | ((with_reducible show ∃ d, BltD _ "isinstance" _ _ d ∧ _); refine ⟨_, (by walk_at "isi"), ?_⟩)
  | ((with_reducible show ∃ d, BltD _ "abs" _ _ d ∧ _); refine ⟨_, blt_abs, ?_⟩)
  | ((with_reducible show ∃ d, TyD _ "int" _ _ d ∧ _); refine ⟨_, ty_int, ?_⟩)
  | ((with_reducible show ∃ d, TyD _ "tuple" _ _ d ∧ _); first | refine ⟨_, ty_tuple, ?_⟩ | refine ⟨_, ty_tupleT, ?_⟩)
  | ((with_reducible show RAG _ [] _ _ _); refine wa_nil ?_)
  | ((with_reducible show RAG _ (_ :: _) _ _ _); refine wa_cons ?_)
  | ((with_reducible show RTG _ (Expr.Compare _ _ _ _) _ _ _); refine wt_cmp ?_)
  | ((with_reducible show RTG _ (Expr.UnaryOp _ _ _) _ _ _); refine wt_not ?_)
  | ((with_reducible show RTG _ (Expr.BoolOp _ _ _) _ _ _); refine wt_w ?_)
  | ((with_reducible show RTG _ (Expr.Name _ _) _ _ _); refine wt_val ?_)
  | ((with_reducible show RTG _ (Expr.Call _ _ _ _) _ _ _); refine wt_val ?_)
  | ((with_reducible show RWG _ (Expr.BoolOp _ _ _) _ _ _); first | refine ww_and1 ?_ | refine ww_or1 ?_ | refine ww_and ?_ | refine ww_or ?_)
  | ((with_reducible show WS _ (Stmt.Assign [Expr.Name _ _] _ _) _ _ _ _ _ _); walk_at "set")
  | ((with_reducible show WS _ (Stmt.Return (some _) _) _ _ _ _ _ _); refine ws_ret ?_)
  | ((with_reducible show WS _ (Stmt.Return none _) _ _ _ _ _ _); refine ws_retN ?_)
  | ((with_reducible show WS _ (Stmt.Expr _ _) _ _ _ _ _ _); refine ws_expr ?_)
  | ((with_reducible show WS _ (Stmt.If _ _ _ _) _ _ _ _ _ _); refine ws_if ?_)
  | ((with_reducible show WS _ (Stmt.Pass _) _ _ _ _ _ _); refine ws_pass ?_)
  | ((with_reducible show WS _ (Stmt.Break _) _ _ _ _ _ _); refine ws_break ?_)
  | ((with_reducible show WS _ (Stmt.Continue _) _ _ _ _ _ _); refine ws_continue ?_)
  | ((with_reducible show WB _ _ (List.set _ _ _) _ _ _ _ _); walk_at "norm")
  | ((with_reducible show WB _ _ (startG _ _) _ _ _ _ _); walk_at "norm")
  | ((with_reducible show WB _ [] _ _ _ _ _ _); refine wb_nil ?_)
  | ((with_reducible show (List.length _ ≤ 100000 ∧ _)); refine ⟨by walk_at "len", ?_⟩)
  | refine ⟨_, (by walk_at "bin" : BinD _ _ _ _ _ _), ?_⟩
  | refine ⟨_, (by walk_at "cmp" : CmpD _ _ _ _ _ _), ?_⟩
  | refine ⟨_, (by walk_at "ix" : IxD _ _ _ _ _), ?_⟩
  | refine ix2 (by omega) (by omega) (fun h => ?_) (fun h => ?_)
  | refine ix3 (by omega) (by omega) (fun h => ?_) (fun h => ?_) (fun h => ?_)
  | ((with_reducible show ∃ k, (D.bl _ = D.bl k) ∧ _); refine ⟨_, rfl, ?_⟩)
  | ((with_reducible show ∃ k, (D.int _ = D.int k) ∧ _); refine ⟨_, rfl, ?_⟩)
  | ((with_reducible show (true = true → _) ∧ _); refine if_T ?_)
  | ((with_reducible show (false = true → _) ∧ _); refine if_F ?_)
  | ((with_reducible show ((!true) = true → _) ∧ _); refine if_NT ?_)
  | ((with_reducible show ((!false) = true → _) ∧ _); refine if_NF ?_)
  | ((with_reducible show (decide _ = true → _) ∧ _); refine if_dec (fun h => ?_) (fun h => ?_) <;> try (exfalso; first | omega | contradiction))
  | ((with_reducible show ((!decide _) = true → _) ∧ _); refine if_ndec (fun h => ?_) (fun h => ?_) <;> try (exfalso; first | omega | contradiction)))
local macro_rules | `(tactic| walk_at "st") => `(tactic| first | walk_at "st1" | ((show WB _ (_ :: _) _ _ _ _ _ _); refine wb_cons ?_))
local macro_rules | `(tactic| walk_at "cons") => `(tactic| ((show WB _ (_ :: _) _ _ _ _ _ _); refine wb_cons ?_))
local macro_rules | `(tactic| walk_at "go1") => `(tactic| repeat' walk_at "st1")
local macro_rules | `(tactic| walk_at "go") => `(tactic| repeat' walk_at "st")
theorem grow {dr : List Int} {x : Int} {n : Nat} (h : dr.length ≤ n) : (dr ++ [x]).length ≤ n + 1 := by rw [List.length_append]; exact Nat.succ_le_succ h
theorem snocI (dr : List Int) (x : Int) : (dr ++ [x]).map D.int = dr.map D.int ++ [.int x] := by rw [List.map_append]; rfl
section
variable {P : Program} {w : World} {K : PySem.W.Frag} {mg : Str → Option Value} {base : Heap} {f : Addr} {fd : FuncData}
def HDraws (P : Program) (w : World) (K : PySem.W.Frag) (mg : Str → Option Value) (base : Heap) : Prop := HasG P w K mg base "_law_draws" 1 2 (fun ds _ => ∃ (ns : List Int) (m : Int), ns.length ≤ 63 ∧ 0 ≤ m ∧ m ≤ 4000 ∧ ds = [.sl (ns.map .int), .int m]) (fun _ o d o' => ∃ dr, DrOk dr ∧ d = .lst (dr.map .int) ∧ o' = o)
local macro_rules | `(tactic| walk_at "name") => `(tactic| first
  | ((with_reducible show REG _ (Expr.Name "script" _) _ _ _); refine w_val 0 rfl rfl (by walk_at "vis") ?_)
  | ((with_reducible show REG _ (Expr.Name "many" _) _ _ _); refine w_val 1 rfl rfl (by walk_at "vis") ?_)
  | ((with_reducible show REG _ (Expr.Name "draws" _) _ _ _); refine w_val 2 rfl rfl (by walk_at "vis") ?_)
  | ((with_reducible show REG _ (Expr.Name "mixed" _) _ _ _); refine w_val 3 rfl rfl (by walk_at "vis") ?_)
  | ((with_reducible show REG _ (Expr.Name "k" _) _ _ _); refine w_val 4 rfl rfl (by walk_at "vis") ?_)
  | ((with_reducible show REG _ (Expr.Name "cell" _) _ _ _); refine w_val 5 rfl rfl (by walk_at "vis") ?_)
  | ((with_reducible show REG _ (Expr.Name "rest" _) _ _ _); refine w_val 6 rfl rfl (by walk_at "vis") ?_)
  | ((with_reducible show REG _ (Expr.Name "turn" _) _ _ _); refine w_val 7 rfl rfl (by walk_at "vis") ?_))
local macro_rules | `(tactic| walk_at "set") => `(tactic| first
  | ((with_reducible show WS _ (Stmt.Assign [Expr.Name "script" _] _ _) _ _ _ _ _ _); refine ws_set 0 (by walk_at "nd") rfl (by walk_at "loc") ?_)
  | ((with_reducible show WS _ (Stmt.Assign [Expr.Name "many" _] _ _) _ _ _ _ _ _); refine ws_set 1 (by walk_at "nd") rfl (by walk_at "loc") ?_)
  | ((with_reducible show WS _ (Stmt.Assign [Expr.Name "draws" _] _ _) _ _ _ _ _ _); refine ws_set 2 (by walk_at "nd") rfl (by walk_at "loc") ?_)
  | ((with_reducible show WS _ (Stmt.Assign [Expr.Name "mixed" _] _ _) _ _ _ _ _ _); refine ws_set 3 (by walk_at "nd") rfl (by walk_at "loc") ?_)
  | ((with_reducible show WS _ (Stmt.Assign [Expr.Name "k" _] _ _) _ _ _ _ _ _); refine ws_set 4 (by walk_at "nd") rfl (by walk_at "loc") ?_)
  | ((with_reducible show WS _ (Stmt.Assign [Expr.Name "cell" _] _ _) _ _ _ _ _ _); refine ws_set 5 (by walk_at "nd") rfl (by walk_at "loc") ?_)
  | ((with_reducible show WS _ (Stmt.Assign [Expr.Name "rest" _] _ _) _ _ _ _ _ _); refine ws_set 6 (by walk_at "nd") rfl (by walk_at "loc") ?_)
  | ((with_reducible show WS _ (Stmt.Assign [Expr.Name "turn" _] _ _) _ _ _ _ _ _); refine ws_set 7 (by walk_at "nd") rfl (by walk_at "loc") ?_))
local macro_rules | `(tactic| walk_at "var") => `(tactic| first
  | ((with_reducible show RE _ (Expr.Name "script" _) _ _ _ _); exact re_v 0 rfl rfl (by walk_at "vis"))
  | ((with_reducible show RE _ (Expr.Name "many" _) _ _ _ _); exact re_v 1 rfl rfl (by walk_at "vis"))
  | ((with_reducible show RE _ (Expr.Name "draws" _) _ _ _ _); exact re_v 2 rfl rfl (by walk_at "vis"))
  | ((with_reducible show RE _ (Expr.Name "mixed" _) _ _ _ _); exact re_v 3 rfl rfl (by walk_at "vis"))
  | ((with_reducible show RE _ (Expr.Name "k" _) _ _ _ _); exact re_v 4 rfl rfl (by walk_at "vis"))
  | ((with_reducible show RE _ (Expr.Name "cell" _) _ _ _ _); exact re_v 5 rfl rfl (by walk_at "vis"))
  | ((with_reducible show RE _ (Expr.Name "rest" _) _ _ _ _); exact re_v 6 rfl rfl (by walk_at "vis"))
  | ((with_reducible show RE _ (Expr.Name "turn" _) _ _ _ _); exact re_v 7 rfl rfl (by walk_at "vis")))
theorem has_law_draws (F : Fun K "_law_draws" "_law_draws" s__law_draws f fd) (hm : mg "_law_draws" = some (.ref f)) (B : Bi mg) : HDraws P w K mg base := by
  refine hasG_mk F sc__law_draws hm (F.binds fun _ _ _ _ _ _ us hl => match us, hl with | [_, _], _ => rfl) (by rintro _ _ ⟨ns, m, _, _, _, rfl⟩; rfl) fun cdv A outer s0 H E ds o hr hnd hR => ?_
  obtain ⟨ns, many, hns, hm0, hm4, rfl⟩ := hR
  refine wb_dropR ?_
  walk_at "go1"
  walk_at "cons"
  refine ws_set 2 (by walk_at "nd") rfl (by walk_at "loc") (w_lstO ?_)
  walk_at "go1"
  intro q hq
  walk_at "go1"
  walk_at "cons"
  walk_at "go1"
  walk_at "cons"
  refine ws_for (List.range ns.length) (fun i : Nat => D.int (0 + (i : Int))) (fun i γ' o1 => ∃ (dr : List Int) (mx : Int) (a b c d : Option D), dr.length ≤ 100 * i ∧ γ' = [some (.sl (ns.map .int)), some (.int many), some (.adr q), some (.int mx), a, b, c, d] ∧ o1 = (q, .lst (dr.map .int)) :: o) rfl PassesOwn.never ?_ ?_ ?_
  · refine wi_of (ri_range1 rfl B.range (ra_cons (re_blt B.len (ra_cons (by walk_at "var") ra_nil) (blt_len .sl)) ra_nil) (by rw [List.length_map]; omega)) ⟨?_, ⟨[], 7, none, none, none, none, Nat.zero_le _, rfl, rfl⟩, fun _ _ _ _ => trivial⟩
    rw [List.length_map]; rfl
  · rintro i i' γ' o1 hi ⟨dr, mx, a, b, c, d, hdr, rfl, rfl⟩
    have e := List.getElem?_range (show i < ns.length by have := (List.getElem?_eq_some_iff.mp hi).1; rw [List.length_range] at this; exact this)
    rw [e] at hi
    cases hi
    have hin : i < ns.length := by
      by_cases c : i < ns.length
      · exact c
      · rw [List.getElem?_eq_none (by rw [List.length_range]; omega)] at e; cases e
    have z : (0 + (i : Int)) = (i : Int) := by omega
    have e1 : (ns.map D.int)[i]? = some (.int (ns.getD i 0)) := by rw [List.getElem?_map, List.getElem?_eq_getElem hin, List.getD_eq_getElem?_getD, List.getElem?_eq_getElem hin]; rfl
    refine ⟨_, _, rg_name 4 hnd rfl (by walk_at "loc"), ?_⟩
    walk_at "go"
    refine ⟨_, ix_slD (by rw [z]; exact atI_mk e1), ?_⟩
    walk_at "go1"
    generalize hcell : (if ns.getD i 0 < 0 then -ns.getD i 0 else ns.getD i 0) = cell
    walk_at "cons"
    walk_at "go1"
    walk_at "cons"
    walk_at "go1"
    refine wb_cut (fun γ' o1 => ∃ (dr : List Int) (mx rest : Int) (d : Option D), dr.length ≤ 100 * i + 2 ∧ γ' = [some (.sl (ns.map .int)), some (.int many), some (.adr q), some (.int mx), some (.int (0 + (i : Int))), some (.int cell), some (.int rest), d] ∧ o1 = (q, .lst (dr.map .int)) :: o) ?_ ?_
    · walk_at "go"
      · exact ⟨dr, _, _, _, by omega, rfl, rfl⟩
      · exact ⟨_, _, _, _, Nat.le_trans (grow (grow hdr)) (by omega), rfl, by rw [snocI, snocI]⟩
    · rintro γ' o1 ⟨dr, mx, rest, d, hdr, rfl, rfl⟩
      walk_at "cons"
      refine ws_for (List.range 60) (fun j : Nat => D.int (0 + (j : Int))) (fun j γ' o1 => ∃ (dr : List Int) (rest : Int) (d : Option D), dr.length ≤ 100 * i + 2 + j ∧ γ' = [some (.sl (ns.map .int)), some (.int many), some (.adr q), some (.int mx), some (.int (0 + (i : Int))), some (.int cell), some (.int rest), d] ∧ o1 = (q, .lst (dr.map .int)) :: o) rfl PassesOwn.never ?_ ?_ ?_
      · exact wi_of (ri_range1 rfl B.range (by walk_at "ra") (by decide)) ⟨rfl, ⟨dr, rest, d, hdr, rfl, rfl⟩, fun _ _ _ _ => trivial⟩
      · rintro j j' γ' o1 hj ⟨dr, rest, d, hdr, rfl, rfl⟩
        have hj60 : j < 60 := by have := (List.getElem?_eq_some_iff.mp hj).1; rw [List.length_range] at this; exact this
        refine ⟨_, _, rg_name 7 hnd rfl (by walk_at "loc"), ?_⟩
        walk_at "go"
        · exact ⟨_, _, _, Nat.le_trans (grow hdr) (by omega), rfl, by rw [snocI]⟩
        · exact ⟨dr, _, _, by omega, rfl, rfl⟩
      · rintro γ' o1 ⟨dr, rest, d, hdr, rfl, rfl⟩
        walk_at "go"
        exact ⟨dr, _, _, _, _, _, by rw [List.length_range] at hdr; omega, rfl, rfl⟩
  · rintro γ' o1 ⟨dr, mx, a, b, c, d, hdr, rfl, rfl⟩
    rw [List.length_range] at hdr
    walk_at "cons"
    refine ws_for (List.range many.toNat) (fun i : Nat => D.int (0 + (i : Int))) (fun i γ' o1 => ∃ (dr : List Int) (mx : Int) (a b c d : Option D), dr.length ≤ 6300 + i ∧ γ' = [some (.sl (ns.map .int)), some (.int many), some (.adr q), some (.int mx), a, b, c, d] ∧ o1 = (q, .lst (dr.map .int)) :: o) rfl PassesOwn.never ?_ ?_ ?_
    · refine wi_of (ri_range1 rfl B.range (by walk_at "ra") (by omega)) ⟨rfl, ⟨dr, mx, a, b, c, d, by omega, rfl, rfl⟩, fun _ _ _ _ => trivial⟩
    · rintro i i' γ' o1 hi ⟨dr, mx, a, b, c, d, hdr, rfl, rfl⟩
      refine ⟨_, _, rg_name 4 hnd rfl (by walk_at "loc"), ?_⟩
      have hi' : i < many.toNat := by have := (List.getElem?_eq_some_iff.mp hi).1; rw [List.length_range] at this; exact this
      walk_at "go"
      exact ⟨_, _, _, _, _, _, Nat.le_trans (grow hdr) (by omega), rfl, by rw [snocI]⟩
    · rintro γ' o1 ⟨dr, mx, a, b, c, d, hdr, rfl, rfl⟩
      rw [List.length_range] at hdr
      walk_at "go"
      refine w_of (re_slO (by walk_at "var") ro_none (ro_some (by walk_at "var")) List.mem_cons_self) ⟨o, List.sublist_cons_self _ _, dr.take many.toNat, ⟨?_⟩, ?_, rfl⟩
      · rw [List.length_take]; omega
      · have e : many = ((many.toNat : Nat) : Int) := (Int.toNat_of_nonneg hm0).symm
        rw [e]
        unfold cutD
        rw [HT.sIx_none, HT.sIx_nat, List.drop_zero, Nat.sub_zero, Int.toNat_natCast, List.map_take]
        congr 1
        rcases Nat.le_total many.toNat (dr.map D.int).length with h | h
        · rw [Nat.min_eq_left h]
        · rw [Nat.min_eq_right h, List.take_length, List.take_of_length_le h]
end
end J
end

section
set_option Elab.async false
set_option maxHeartbeats 0
set_option linter.all false
set_option maxRecDepth 100000
/-! the plain law of k49 -/
namespace J
open PySem PySem.Spec PyProof.Rows L2
theorem all_in {L lot : List (List Int)} : (L.all fun e => decide (e ∈ lot)) = true ↔ ∀ e ∈ L, e ∈ lot := by
  rw [List.all_eq_true]
  exact ⟨fun h e he => of_decide_eq_true (h e he), fun h e he => decide_eq_true (h e he)⟩
theorem isIn_iff {r : Ends} {lot : List (List Int)} : isIn r lot = true ↔ ∃ L, r = some L ∧ ∀ e ∈ L, e ∈ lot := by
  cases r with
  | none => exact ⟨fun h => absurd h (by simp [isIn]), fun ⟨L, e, _⟩ => by cases e⟩
  | some L =>
    show (true && L.all _) = true ↔ _
    rw [Bool.true_and, all_in]
    exact ⟨fun h => ⟨L, rfl, h⟩, fun ⟨L', e, h⟩ => by cases e; exact h⟩
theorem both_isIn {rs : List Ends} {lot : List (List Int)} : isIn (bothE rs) lot = true ↔ ∀ r ∈ rs, isIn r lot = true := by
  unfold bothE
  by_cases c : rs.any (·.isNone) = true
  · rw [if_pos c]
    obtain ⟨r, hr, hn⟩ := List.any_eq_true.mp c
    refine ⟨fun h => absurd h (by simp [isIn]), fun h => ?_⟩
    have z := h r hr
    cases r with
    | none => exact absurd z (by simp [isIn])
    | some L => cases hn
  · rw [if_neg c, isIn_iff]
    constructor
    · rintro ⟨L, e, h⟩ r hr
      cases e
      cases r with
      | none => exact absurd (List.any_eq_true.mpr ⟨none, hr, rfl⟩) c
      | some L => exact isIn_iff.mpr ⟨L, rfl, fun x hx => h x ((sortA_mem x _).mpr (List.mem_flatMap.mpr ⟨some L, hr, hx⟩))⟩
    · intro h
      refine ⟨_, rfl, fun x hx => ?_⟩
      obtain ⟨r, hr, hx⟩ := List.mem_flatMap.mp ((sortA_mem x _).mp hx)
      obtain ⟨L, e, hL⟩ := isIn_iff.mp (h r hr)
      subst e
      exact hL x hx
theorem mem_ahead {fr : Fr} {g : Mean} {lot : List (List Int)} {s : List Int} : s ∈ aheadE fr g lot ↔ s ∈ statesF fr ∧ isIn (g s) lot = true := by unfold aheadE; rw [List.mem_filter]
theorem filter_eq {L : List (List Int)} {p q : List Int → Bool} (h : ∀ s ∈ L, p s = q s) : L.filter p = L.filter q := List.filter_congr h
theorem mem_both {a b : List (List Int)} {s : List Int} : s ∈ bothL a b ↔ s ∈ a ∧ s ∈ b := by unfold bothL; rw [List.mem_filter, decide_eq_true_iff]
theorem ahead_both (fr : Fr) (g : Mean) (lot oth : List (List Int)) : aheadE fr g (bothL lot oth) = bothL (aheadE fr g lot) (aheadE fr g oth) := by
  unfold bothL
  show (statesF fr).filter _ = ((statesF fr).filter _).filter _
  rw [List.filter_filter]
  refine filter_eq fun s hs => Bool.eq_iff_iff.mpr ?_
  rw [Bool.and_eq_true, decide_eq_true_iff, mem_ahead]
  constructor
  · intro h
    obtain ⟨L, e, hL⟩ := isIn_iff.mp h
    exact ⟨⟨hs, isIn_iff.mpr ⟨L, e, fun x hx => (mem_both.mp (hL x hx)).2⟩⟩, isIn_iff.mpr ⟨L, e, fun x hx => (mem_both.mp (hL x hx)).1⟩⟩
  · rintro ⟨⟨_, h2⟩, h1⟩
    obtain ⟨L, e, hL⟩ := isIn_iff.mp h1
    obtain ⟨L', e', hL'⟩ := isIn_iff.mp h2
    rw [e] at e'
    cases e'
    exact isIn_iff.mpr ⟨L, e, fun x hx => mem_both.mpr ⟨hL x hx, hL' x hx⟩⟩
theorem ahead_seq {k : Nat} {fr : Fr} {a b : Cmd} (hf : FrOk fr) (ha : CmdOk k a fr) (lot : List (List Int)) : aheadE fr (meanC (.seq a b) fr) lot = aheadE fr (meanC a fr) (aheadE fr (meanC b fr) lot) := by
  unfold aheadE
  refine filter_eq fun s hs => Bool.eq_iff_iff.mpr ?_
  rw [meanC]
  have g := (meanC_ok hf ha s hs).inn
  cases q : meanC a fr s with
  | none => exact ⟨fun h => absurd h (by simp [isIn]), fun h => absurd h (by simp [isIn])⟩
  | some L =>
    show isIn (bothE (L.map (meanC b fr))) lot = true ↔ _
    rw [both_isIn, isIn_iff]
    constructor
    · intro h
      exact ⟨L, rfl, fun x hx => List.mem_filter.mpr ⟨g L q x hx, h _ (List.mem_map_of_mem hx)⟩⟩
    · rintro ⟨L', e, h⟩ r hr
      cases e
      obtain ⟨x, hx, rfl⟩ := List.mem_map.mp hr
      exact (List.mem_filter.mp (h x hx)).2
theorem ahead_any (fr : Fr) (a b : Cmd) (lot : List (List Int)) : aheadE fr (meanC (.any a b) fr) lot = bothL (aheadE fr (meanC a fr) lot) (aheadE fr (meanC b fr) lot) := by
  unfold bothL
  show (statesF fr).filter _ = ((statesF fr).filter _).filter _
  rw [List.filter_filter]
  refine filter_eq fun s hs => Bool.eq_iff_iff.mpr ?_
  rw [meanC, both_isIn, Bool.and_eq_true, decide_eq_true_iff, mem_ahead]
  constructor
  · intro h
    exact ⟨⟨hs, h _ (List.mem_cons_of_mem _ List.mem_cons_self)⟩, h _ List.mem_cons_self⟩
  · rintro ⟨⟨_, h2⟩, h1⟩ r hr
    rcases List.mem_cons.mp hr with e | hr
    · rw [e]; exact h1
    · rw [List.mem_singleton.mp hr]; exact h2
theorem may_rest {fr : Fr} {g : Mean} (hg : GOk fr g) (lot : List (List Int)) : mayE fr g ((statesF fr).filter fun s => !decide (s ∈ lot)) = (statesF fr).filter fun s => !decide (s ∈ aheadE fr g lot) := by
  unfold mayE
  refine filter_eq fun s hs => ?_
  have e : decide (s ∈ aheadE fr g lot) = isIn (g s) lot := Bool.eq_iff_iff.mpr (by rw [decide_eq_true_iff, mem_ahead]; exact ⟨fun h => h.2, fun h => ⟨hs, h⟩⟩)
  rw [e]
  have hi := (hg s hs).inn
  cases q : g s with
  | none => rfl
  | some L =>
    show (false || L.any _) = !(true && L.all _)
    rw [Bool.false_or, Bool.true_and, List.not_all_eq_any_not]
    refine Bool.eq_iff_iff.mpr ?_
    rw [List.any_eq_true, List.any_eq_true]
    constructor
    · rintro ⟨x, hx, h⟩
      exact ⟨x, hx, (List.mem_filter.mp (of_decide_eq_true h)).2⟩
    · rintro ⟨x, hx, h⟩
      exact ⟨x, hx, decide_eq_true (List.mem_filter.mpr ⟨hi L q x hx, h⟩)⟩
theorem least_is {fr : Fr} {g : Mean} (hg : GOk fr g) : aheadE fr g (statesF fr) = (statesF fr).filter fun s => (g s).isSome := by
  unfold aheadE
  refine filter_eq fun s hs => Bool.eq_iff_iff.mpr ?_
  rw [isIn_iff]
  have hi := (hg s hs).inn
  cases q : g s with
  | none => exact ⟨fun ⟨L, e, _⟩ => (by cases e), fun h => (by cases h)⟩
  | some L => exact ⟨fun _ => rfl, fun _ => ⟨L, rfl, hi L q⟩⟩
theorem both_none {rs : List Ends} : bothE rs = none ↔ ∃ r ∈ rs, r = none := by
  unfold bothE
  by_cases c : rs.any (·.isNone) = true
  · rw [if_pos c]
    obtain ⟨r, hr, hn⟩ := List.any_eq_true.mp c
    refine ⟨fun _ => ⟨r, hr, ?_⟩, fun _ => rfl⟩
    cases r with
    | none => rfl
    | some L => cases hn
  · rw [if_neg c]
    exact ⟨fun h => (by cases h), fun ⟨r, hr, e⟩ => absurd (List.any_eq_true.mpr ⟨r, hr, by rw [e]; rfl⟩) c⟩
theorem both_some {rs : List Ends} {L : List (List Int)} (h : bothE rs = some L) : Asc L ∧ ∀ x, x ∈ L ↔ ∃ r ∈ rs, x ∈ r.getD [] := by
  unfold bothE at h
  split at h
  · cases h
  · cases h
    exact ⟨sortA_asc _, fun x => by rw [sortA_mem, List.mem_flatMap]⟩
/-- the ends of two lots together -/
theorem ends_two (g : Mean) (lot oth : List (List Int)) : bothE ((sortA (lot ++ oth)).map g) = match bothE (lot.map g), bothE (oth.map g) with
    | some a, some b => some (sortA (a ++ b))
    | _, _ => none := by
  have mem : ∀ r, r ∈ (sortA (lot ++ oth)).map g ↔ r ∈ lot.map g ∨ r ∈ oth.map g := fun r => by
    rw [List.mem_map, List.mem_map, List.mem_map]
    constructor
    · rintro ⟨s, hs, e⟩
      rcases List.mem_append.mp ((sortA_mem s _).mp hs) with h | h
      · exact .inl ⟨s, h, e⟩
      · exact .inr ⟨s, h, e⟩
    · rintro (⟨s, h, e⟩ | ⟨s, h, e⟩)
      · exact ⟨s, (sortA_mem s _).mpr (List.mem_append_left _ h), e⟩
      · exact ⟨s, (sortA_mem s _).mpr (List.mem_append_right _ h), e⟩
  cases h1 : bothE (lot.map g) with
  | none =>
    obtain ⟨r, hr, e⟩ := both_none.mp h1
    exact both_none.mpr ⟨r, (mem r).mpr (.inl hr), e⟩
  | some A =>
    cases h2 : bothE (oth.map g) with
    | none =>
      obtain ⟨r, hr, e⟩ := both_none.mp h2
      exact both_none.mpr ⟨r, (mem r).mpr (.inr hr), e⟩
    | some B =>
      cases h3 : bothE ((sortA (lot ++ oth)).map g) with
      | none =>
        obtain ⟨r, hr, e⟩ := both_none.mp h3
        rcases (mem r).mp hr with h | h
        · rw [both_none.mpr ⟨r, h, e⟩] at h1; cases h1
        · rw [both_none.mpr ⟨r, h, e⟩] at h2; cases h2
      | some C =>
        obtain ⟨a1, m1⟩ := both_some h1
        obtain ⟨a2, m2⟩ := both_some h2
        obtain ⟨a3, m3⟩ := both_some h3
        show some C = some (sortA (A ++ B))
        rw [sortA_of a3 fun x => ?_]
        rw [m3, List.mem_append, m1, m2]
        constructor
        · rintro ⟨r, hr, hx⟩
          rcases (mem r).mp hr with h | h
          · exact .inl ⟨r, h, hx⟩
          · exact .inr ⟨r, h, hx⟩
        · rintro (⟨r, hr, hx⟩ | ⟨r, hr, hx⟩)
          · exact ⟨r, (mem r).mpr (.inl hr), hx⟩
          · exact ⟨r, (mem r).mpr (.inr hr), hx⟩
/-- led within another lot -/
theorem led_iff {fr : Fr} {g : Mean} {lot oth : List (List Int)} (hl : ∀ s ∈ lot, s ∈ statesF fr) : isIn (bothE (lot.map g)) oth = ((lot.filter fun s => !decide (s ∈ aheadE fr g oth)).isEmpty) := by
  refine Bool.eq_iff_iff.mpr ?_
  rw [both_isIn, List.isEmpty_iff, List.filter_eq_nil_iff]
  constructor
  · intro h s hs
    have z := mem_ahead.mpr ⟨hl s hs, h _ (List.mem_map_of_mem hs)⟩
    simpa using z
  · intro h r hr
    obtain ⟨s, hs, rfl⟩ := List.mem_map.mp hr
    have z := h s hs
    have z : s ∈ aheadE fr g oth := by simpa using z
    exact (mem_ahead.mp z).2
theorem ends_n1 {g : Mean} {lot oth : List (List Int)} (h : bothE (lot.map g) = none) : bothE ((sortA (lot ++ oth)).map g) = none := by rw [ends_two, h]
theorem ends_n2 {g : Mean} {lot oth : List (List Int)} (h : bothE (oth.map g) = none) : bothE ((sortA (lot ++ oth)).map g) = none := by
  rw [ends_two, h]
  cases bothE (lot.map g) <;> rfl
theorem ends_s {g : Mean} {lot oth A B : List (List Int)} (h1 : bothE (lot.map g) = some A) (h2 : bothE (oth.map g) = some B) : bothE ((sortA (lot ++ oth)).map g) = some (sortA (A ++ B)) := by rw [ends_two, h1, h2]
theorem sort_len {fr : Fr} {l : List (List Int)} (hf : FrOk fr) (h : ∀ s ∈ l, s ∈ statesF fr) : (sortA l).length ≤ 60 :=
  Nat.le_trans (nodup_sub_len (asc_nodup (sortA_asc _)) fun s hs => h s ((sortA_mem s _).mp hs)) hf.le60
end J
end

section
set_option Elab.async false
set_option maxHeartbeats 0
set_option linter.all false
set_option maxRecDepth 100000
/-! the law k49 -/
namespace J
open PySem PySem.Spec PyProof.Rows L2
local macro_rules | `(tactic| walk_at "vis") => `(tactic| first | exact Or.inl rfl | exact Or.inr (Or.inl rfl) | exact Or.inr (Or.inr rfl))
local macro_rules | `(tactic| walk_at "loc") => `(tactic| first | exact Or.inl rfl | exact Or.inr rfl)
local macro_rules | `(tactic| walk_at "var") => `(tactic| first
  | exact re_v 0 rfl rfl (by walk_at "vis") | exact re_v 1 rfl rfl (by walk_at "vis") | exact re_v 2 rfl rfl (by walk_at "vis") | exact re_v 3 rfl rfl (by walk_at "vis")
  | exact re_v 4 rfl rfl (by walk_at "vis") | exact re_v 5 rfl rfl (by walk_at "vis") | exact re_v 6 rfl rfl (by walk_at "vis") | exact re_v 7 rfl rfl (by walk_at "vis")
  | exact re_v 8 rfl rfl (by walk_at "vis") | exact re_v 9 rfl rfl (by walk_at "vis") | exact re_v 10 rfl rfl (by walk_at "vis") | exact re_v 11 rfl rfl (by walk_at "vis")
  | exact re_v 12 rfl rfl (by walk_at "vis") | exact re_v 13 rfl rfl (by walk_at "vis") | exact re_v 14 rfl rfl (by walk_at "vis") | exact re_v 15 rfl rfl (by walk_at "vis")
  | exact re_v 16 rfl rfl (by walk_at "vis") | exact re_v 17 rfl rfl (by walk_at "vis") | exact re_v 18 rfl rfl (by walk_at "vis") | exact re_v 19 rfl rfl (by walk_at "vis"))
local macro_rules | `(tactic| walk_at "ix") => `(tactic| first | exact ix_tupD rfl | exact ix_lstD rfl | exact ix_wtD rfl)
local macro_rules | `(tactic| walk_at "len") => `(tactic| first | exact Nat.le_of_ble_eq_true rfl | assumption | (simp; done) | (simp; omega))
local macro_rules | `(tactic| walk_at "ra") => `(tactic| first | ((with_reducible show RA _ [] _ _ _ _); exact ra_nil) | ((with_reducible show RA _ (_ :: _) _ _ _ _); exact ra_cons (by walk_at "ev") (by walk_at "ra")))
local macro_rules | `(tactic| walk_at "bin") => `(tactic| first | exact bin_addI | exact bin_subI | exact bin_addT (by walk_at "len") | exact bin_addL (by walk_at "len") | exact bin_mulI (Or.inr ⟨by decide, by decide⟩) | exact bin_mulI (Or.inl ⟨by decide, by decide⟩) | exact bin_modI (by decide) | exact bin_divW ⟨by decide, by decide⟩ | exact bin_pow ⟨by decide, by decide, by decide⟩)
local macro_rules | `(tactic| walk_at "ev") => `(tactic| first
  | ((with_reducible show RE _ (Expr.Name _ _) _ _ _ _); walk_at "var")
  | ((with_reducible show RE _ (Expr.Constant _ _ _) _ _ _ _); first | exact re_int | exact re_str | exact re_bl | exact re_non)
  | ((with_reducible show RE _ (Expr.Tuple _ _ _) _ _ _ _); exact re_tup (by walk_at "ra") (by walk_at "len"))
  | ((with_reducible show RE _ (Expr.List _ _) _ _ _ _); exact re_lst (by walk_at "ra") (by walk_at "len"))
  | ((with_reducible show RE _ (Expr.Subscript _ _ _) _ _ _ _); exact re_sub (by walk_at "ev") (by walk_at "ev") (by walk_at "ix"))
  | ((with_reducible show RE _ (Expr.BinOp _ _ _ _) _ _ _ _); exact re_bin (by walk_at "ev") (by walk_at "ev") (by walk_at "bin"))
  | assumption)
local macro_rules | `(tactic| walk_at "cmp") => `(tactic| first | exact cmp_ltI | exact cmp_leI | exact cmp_gtI | exact cmp_geI | exact cmp_eqI | exact cmp_neI | exact cmp_eqS | exact cmp_neS | exact cmp_eqB | exact cmp_neB | exact cmp_isNn | exact cmp_isNt | exact cmp_notNn | exact cmp_notNt | exact cmp_isN' | exact cmp_notN' | exact cmp_inSt (J.Room.u65 (by assumption)) .tup | exact cmp_inSt (J.Room.u65 (by assumption)) .lst | exact cmp_ninSt (J.Room.u65 (by assumption)) .tup | exact cmp_ninSt (J.Room.u65 (by assumption)) .lst | exact cmp_eqNil (J.Room.u0 (by assumption)) .lst | exact cmp_neNil (J.Room.u0 (by assumption)) .lst)
local macro_rules | `(tactic| walk_at "norm") => `(tactic| first | refine wb_as1 rfl ?_ | refine wb_as2 rfl ?_ | refine wb_as3 rfl ?_ | refine wb_as4 rfl ?_ | refine wb_as5 rfl ?_ | refine wb_as6 rfl ?_ | refine wb_as7 rfl ?_ | refine wb_as8 rfl ?_ | refine wb_as9 rfl ?_ | refine wb_as10 rfl ?_ | refine wb_as11 rfl ?_ | refine wb_as12 rfl ?_ | refine wb_as13 rfl ?_ | refine wb_as14 rfl ?_ | refine wb_as15 rfl ?_ | refine wb_as16 rfl ?_ | refine wb_as17 rfl ?_ | refine wb_as18 rfl ?_ | refine wb_as19 rfl ?_ | refine wb_as20 rfl ?_ | refine wb_as21 rfl ?_ | refine wb_as22 rfl ?_ | refine wb_as23 rfl ?_ | refine wb_as24 rfl ?_ | refine wb_as25 rfl ?_ | refine wb_as26 rfl ?_ | refine wb_as27 rfl ?_ | refine wb_as28 rfl ?_)
local macro_rules | `(tactic| walk_at "nd") => `(tactic| assumption)
local macro_rules | `(tactic| walk_at "blt") => `(tactic| first
  | ((with_reducible show REG _ (Expr.Call (Expr.Name "tuple" _) _ _ _) _ _ _); refine w_tuple (by assumption) ?_)
  | ((with_reducible show REG _ (Expr.Call (Expr.Name "len" _) _ _ _) _ _ _); refine w_len (by assumption) ?_)
  | ((with_reducible show REG _ (Expr.Call (Expr.Name "sorted" _) [Expr.Name _ _] _ _) _ _ _); refine w_sorted (by assumption) ?_)
  | ((with_reducible show REG _ (Expr.Call (Expr.Name "sorted" _) [Expr.BinOp _ _ _ _] _ _) _ _ _); refine w_sorted (by assumption) ?_)
  | ((with_reducible show REG _ (Expr.Call (Expr.Name "list" _) _ _ _) _ _ _); refine w_list (by assumption) ?_)
  | ((with_reducible show REG _ (Expr.Call (Expr.Name "dict" _) _ _ _) _ _ _); refine w_dict (by assumption) ?_)
  | ((with_reducible show REG _ (Expr.Call (Expr.Name "int" _) _ _ _) _ _ _); refine w_intB (by assumption) ?_)
  | ((with_reducible show REG _ (Expr.Call (Expr.Name "all" _) _ _ _) _ _ _); refine w_all (by assumption) ?_)
  | ((with_reducible show REG _ (Expr.Call (Expr.Name "any" _) _ _ _) _ _ _); refine w_any (by assumption) ?_)
  | ((with_reducible show REG _ (Expr.Call (Expr.Name "min" _) _ _ _) _ _ _); refine w_min (by assumption) ?_)
  | ((with_reducible show REG _ (Expr.Call (Expr.Name "max" _) _ _ _) _ _ _); refine w_max (by assumption) ?_)
  | ((with_reducible show REG _ (Expr.Call (Expr.Name "abs" _) _ _ _) _ _ _); refine w_abs (by assumption) ?_)
  | ((with_reducible show REG _ (Expr.Call (Expr.Name "isinstance" _) _ _ _) _ _ _); refine w_isi (by assumption) ?_)
  | ((with_reducible show REG _ (Expr.Call (Expr.Name "sum" _) _ _ _) _ _ _); refine w_sum (by assumption) ?_))
local macro_rules | `(tactic| walk_at "isi") => `(tactic| first
  | ((with_reducible show BltD _ _ _ [D.int _, _] _); first | exact isi_int_int | exact isi_int_bool | exact isi_int_str | exact isi_int_dict | exact isi_int_tuple | exact isi_int_list)
  | ((with_reducible show BltD _ _ _ [D.bl _, _] _); first | exact isi_bl_int | exact isi_bl_bool | exact isi_bl_str | exact isi_bl_dict | exact isi_bl_tuple | exact isi_bl_list)
  | ((with_reducible show BltD _ _ _ [D.str _, _] _); first | exact isi_str_int | exact isi_str_bool | exact isi_str_str | exact isi_str_dict | exact isi_str_tuple | exact isi_str_list)
  | ((with_reducible show BltD _ _ _ [D.non, _] _); first | exact isi_non_int | exact isi_non_bool | exact isi_non_str | exact isi_non_dict | exact isi_non_tuple | exact isi_non_list)
  | ((with_reducible show BltD _ _ _ [D.tup _, _] _); first | exact isi_tup_int | exact isi_tup_bool | exact isi_tup_str | exact isi_tup_dict | exact isi_tup_tuple | exact isi_tup_list)
  | ((with_reducible show BltD _ _ _ [D.lst _, _] _); first | exact isi_lst_int | exact isi_lst_bool | exact isi_lst_str | exact isi_lst_dict | exact isi_lst_tuple | exact isi_lst_list)
  | ((with_reducible show BltD _ _ _ [D.dT _, _] _); first | exact isi_dT_int | exact isi_dT_bool | exact isi_dT_str | exact isi_dT_dict | exact isi_dT_tuple | exact isi_dT_list)
  | ((with_reducible show BltD _ _ _ [D.dK _, _] _); first | exact isi_dK_int | exact isi_dK_bool | exact isi_dK_str | exact isi_dK_dict | exact isi_dK_tuple | exact isi_dK_list))
local macro_rules | `(tactic| walk_at "tyn") => `(tactic| first
  | ((with_reducible show REG _ (Expr.Name "int" _) _ _ _); refine w_ty_int (by assumption) ?_)
  | ((with_reducible show REG _ (Expr.Name "bool" _) _ _ _); refine w_ty_bool (by assumption) ?_)
  | ((with_reducible show REG _ (Expr.Name "str" _) _ _ _); refine w_ty_str (by assumption) ?_)
  | ((with_reducible show REG _ (Expr.Name "dict" _) _ _ _); refine w_ty_dict (by assumption) ?_)
  | ((with_reducible show REG _ (Expr.Name "tuple" _) _ _ _); refine w_ty_tuple (by assumption) ?_)
  | ((with_reducible show REG _ (Expr.Name "list" _) _ _ _); refine w_ty_list (by assumption) ?_))
local macro_rules | `(tactic| walk_at "args") => `(tactic| first | rfl | (simp only [List.cons.injEq, D.int.injEq, and_true, true_and]; omega))
local macro_rules | `(tactic| walk_at "call") => `(tactic| fail)
local macro_rules | `(tactic| walk_at "st1") => `(tactic| first
  | ((with_reducible show REG _ (Expr.Name _ _) _ _ _); first | walk_at "tyn" | walk_at "name")
  | ((with_reducible show REG _ (Expr.Constant _ _ _) _ _ _); first | refine w_int ?_ | refine w_str ?_ | refine w_bl ?_ | refine w_non ?_)
  | ((with_reducible show REG _ (Expr.Tuple _ _ _) _ _ _); refine w_tup ?_)
  | ((with_reducible show REG _ (Expr.List _ _) _ _ _); refine w_lst ?_)
  | ((with_reducible show REG _ (Expr.Subscript _ _ _) _ _ _); refine w_sub ?_)
  | ((with_reducible show REG _ (Expr.BinOp _ _ _ _) _ _ _); refine w_bin ?_)
  | ((with_reducible show REG _ (Expr.Compare _ _ _ _) _ _ _); refine w_cmp ?_)
  | ((with_reducible show REG _ (Expr.UnaryOp _ _ _) _ _ _); first | refine w_not ?_ | refine w_neg ?_)
  | ((with_reducible show REG _ (Expr.IfExp _ _ _ _) _ _ _); refine w_ifE ?_)
  | ((with_reducible show REG _ (Expr.BoolOp _ _ _) _ _ _); first | refine w_one ?_ | refine w_and ?_ | refine w_or ?_)
  | ((with_reducible show REG _ (Expr.Call (Expr.Attribute (Expr.Name _ _) "append" _) _ _ _) _ _ _); refine w_appendH (by assumption) (by walk_at "var") ?_)
  | ((with_reducible show _ = _ ∧ List.length _ ≤ 100000 ∧ _); refine ⟨rfl, by walk_at "len", ?_⟩)
  | ((with_reducible show REG _ (Expr.Call _ _ _ _) _ _ _); walk_at "call")
  | ((with_reducible show REG _ (Expr.Call (Expr.Name _ _) _ _ _) _ _ _); walk_at "blt")
  | ((with_reducible show ∃ d, BltD _ "len" _ _ d ∧ _); first | refine ⟨_, blt_len .tup, ?_⟩ | refine ⟨_, blt_len .lst, ?_⟩)
  | ((with_reducible show ∃ d, BltD _ "isinstance" _ _ d ∧ _); refine ⟨_, (by walk_at "isi"), ?_⟩)
  | ((with_reducible show ∃ d, BltD _ "abs" _ _ d ∧ _); refine ⟨_, blt_abs, ?_⟩)
  | ((with_reducible show ∃ d, TyD _ "int" _ _ d ∧ _); refine ⟨_, ty_int, ?_⟩)
  | ((with_reducible show ∃ d, TyD _ "tuple" _ _ d ∧ _); first | refine ⟨_, ty_tuple, ?_⟩ | refine ⟨_, ty_tupleT, ?_⟩)
  | ((with_reducible show RAG _ [] _ _ _); refine wa_nil ?_)
  | ((with_reducible show RAG _ (_ :: _) _ _ _); refine wa_cons ?_)
  | ((with_reducible show RTG _ (Expr.Compare _ _ _ _) _ _ _); refine wt_cmp ?_)
  | ((with_reducible show RTG _ (Expr.UnaryOp _ _ _) _ _ _); refine wt_not ?_)
  | ((with_reducible show RTG _ (Expr.BoolOp _ _ _) _ _ _); refine wt_w ?_)
  | ((with_reducible show RTG _ (Expr.Name _ _) _ _ _); refine wt_val ?_)
  | ((with_reducible show RTG _ (Expr.Call _ _ _ _) _ _ _); refine wt_val ?_)
  | ((with_reducible show RWG _ (Expr.BoolOp _ _ _) _ _ _); first | refine ww_and1 ?_ | refine ww_or1 ?_ | refine ww_and ?_ | refine ww_or ?_)
  | ((with_reducible show WS _ (Stmt.Assign [Expr.Name _ _] _ _) _ _ _ _ _ _); walk_at "set")
  | ((with_reducible show WS _ (Stmt.Return (some _) _) _ _ _ _ _ _); refine ws_ret ?_)
  | ((with_reducible show WS _ (Stmt.Return none _) _ _ _ _ _ _); refine ws_retN ?_)
  | ((with_reducible show WS _ (Stmt.Expr _ _) _ _ _ _ _ _); refine ws_expr ?_)
  | ((with_reducible show WS _ (Stmt.If _ _ _ _) _ _ _ _ _ _); refine ws_if ?_)
  | ((with_reducible show WS _ (Stmt.Pass _) _ _ _ _ _ _); refine ws_pass ?_)
  | ((with_reducible show WS _ (Stmt.Break _) _ _ _ _ _ _); refine ws_break ?_)
  | ((with_reducible show WS _ (Stmt.Continue _) _ _ _ _ _ _); refine ws_continue ?_)
  | ((with_reducible show WB _ _ (List.set _ _ _) _ _ _ _ _); walk_at "norm")
  | ((with_reducible show WB _ _ (startG _ _) _ _ _ _ _); walk_at "norm")
  | ((with_reducible show WB _ [] _ _ _ _ _ _); refine wb_nil ?_)
  | ((with_reducible show (List.length _ ≤ 100000 ∧ _)); refine ⟨by walk_at "len", ?_⟩)
  | refine ⟨_, (by walk_at "bin" : BinD _ _ _ _ _ _), ?_⟩
  | refine ⟨_, (by walk_at "cmp" : CmpD _ _ _ _ _ _), ?_⟩
  | refine ⟨_, (by walk_at "ix" : IxD _ _ _ _ _), ?_⟩
  | refine ix2 (by omega) (by omega) (fun h => ?_) (fun h => ?_)
  | refine ix3 (by omega) (by omega) (fun h => ?_) (fun h => ?_) (fun h => ?_)
  | ((with_reducible show ∃ k, (D.bl _ = D.bl k) ∧ _); refine ⟨_, rfl, ?_⟩)
  | ((with_reducible show ∃ k, (D.int _ = D.int k) ∧ _); refine ⟨_, rfl, ?_⟩)
  | ((with_reducible show (true = true → _) ∧ _); refine if_T ?_)
  | ((with_reducible show (false = true → _) ∧ _); refine if_F ?_)
  | ((with_reducible show ((!true) = true → _) ∧ _); refine if_NT ?_)
  | ((with_reducible show ((!false) = true → _) ∧ _); refine if_NF ?_)
  | ((with_reducible show (decide _ = true → _) ∧ _); refine if_dec (fun h => ?_) (fun h => ?_) <;> try (exfalso; first | omega | contradiction))
  | ((with_reducible show ((!decide _) = true → _) ∧ _); refine if_ndec (fun h => ?_) (fun h => ?_) <;> try (exfalso; first | omega | contradiction)))
local macro_rules | `(tactic| walk_at "st") => `(tactic| first | walk_at "st1" | ((show WB _ (_ :: _) _ _ _ _ _ _); refine wb_cons ?_))
local macro_rules | `(tactic| walk_at "cons") => `(tactic| ((show WB _ (_ :: _) _ _ _ _ _ _); refine wb_cons ?_))
local macro_rules | `(tactic| walk_at "go1") => `(tactic| repeat' walk_at "st1")
local macro_rules | `(tactic| walk_at "go") => `(tactic| repeat' walk_at "st")
theorem same_st (s : List Int) : Same (stD s) (stD s) := .tup _ _ rfl fun i a b h1 h2 => by
  rw [h1] at h2
  cases h2
  rw [List.getElem?_map] at h1
  cases q : s[i]? with
  | none => rw [q] at h1; cases h1
  | some x => rw [q] at h1; cases h1; exact .int x
theorem same_lot (L : List (List Int)) : Same (.tup (L.map stD)) (.tup (L.map stD)) := .tup _ _ rfl fun i a b h1 h2 => by
  rw [h1] at h2
  cases h2
  obtain ⟨x, _, rfl⟩ := map_at h1
  exact same_st x
theorem same_ends (r : Ends) : Same (endsD r) (endsD r) := by
  cases r with
  | none => exact .non
  | some L => exact same_lot L
theorem wt_ints : ∀ s : List Int, wtL (s.map D.int) = s.length
  | [] => rfl
  | i :: s => by
    have e : wtD (.int i) = 1 := by simp [wtD]
    rw [List.map_cons, wtL, wt_ints s, e, List.length_cons]; omega
theorem wt_sts : ∀ {L : List (List Int)} {n : Nat}, (∀ s ∈ L, s.length ≤ n) → wtL (L.map stD) ≤ L.length * (n + 1)
  | [], n, _ => Nat.zero_le _
  | s :: L, n, h => by
    have z := wt_sts (L := L) fun t ht => h t (List.mem_cons_of_mem _ ht)
    have z2 := h s List.mem_cons_self
    have e : wtD (stD s) = 1 + s.length := by unfold stD; rw [wtD, wt_ints]
    rw [List.map_cons, wtL, e, List.length_cons, Nat.succ_mul]
    omega
theorem wt_lot {L : List (List Int)} {fr : Fr} (h : ∀ s ∈ L, s ∈ statesF fr) (hf : FrOk fr) (hl : L.length ≤ 1000) : wtD (.tup (L.map stD)) ≤ 100000 := by
  have z := wt_sts (L := L) (n := 8) fun s hs => by rw [statesF_len (h s hs)]; exact hf.few
  rw [wtD]
  omega
theorem wt_ends {r : Ends} {fr : Fr} (h : EnOk fr r) (hf : FrOk fr) : wtD (endsD r) ≤ 100000 := by
  cases r with
  | none => show 1 ≤ 100000; decide
  | some L => exact wt_lot (h.inn L rfl) hf (Nat.le_trans h.few (by decide))
theorem eqvAll_sts : ∀ a b : List (List Int), PyData.eqvAll (pyL (a.map stD)) (pyL (b.map stD)) = decide (a = b)
  | [], [] => rfl
  | [], _ :: _ => rfl
  | _ :: _, [] => rfl
  | x :: a, y :: b => by
    show (eqD (stD x) (stD y) && PyData.eqvAll (pyL (a.map stD)) (pyL (b.map stD))) = _
    rw [eqvAll_sts a b, eqD_st, ← Bool.decide_and]
    exact decide_eq_decide.mpr ⟨fun e => by rw [e.1, e.2], fun e => List.cons.inj e⟩
theorem eqD_sts (a b : List (List Int)) : eqD (.lst (a.map stD)) (.lst (b.map stD)) = decide (a = b) := eqvAll_sts a b
theorem okSts (a : List (List Int)) : okD (.lst (a.map stD)) := (Lay.lst (n := 1) fun d hd => by
  obtain ⟨s, _, rfl⟩ := List.mem_map.mp hd
  exact lay_st s).shaped (by decide)
theorem manyI_tab (fr : Fr) (g : Mean) : ManyI (tabD fr g) (statesF fr) := .keys (by
  rw [List.map_map, List.map_map]; rfl)
section
variable {X : Cx} {o : Own} {P : D → Own → Prop}
theorem cmp_neSts {a b : List (List Int)} (hu : X.A.units + 64 < cLine) : CmpD X .NotEq o (.lst (a.map stD)) (.lst (b.map stD)) (.bl (!decide (a = b))) := by
  have z := cmp_neD (X := X) (o := o) hu (okSts a) (okSts b)
  rw [eqD_sts] at z
  exact z
theorem srt_tab {fr : Fr} {g : Mean} (hc : X.calm = true) (h1 : 1 ≤ fr.length) : BltD X "sorted" o [tabD fr g] (.lst ((statesF fr).map stD)) :=
  blt_sorted (k := fr.length) hc (manyI_tab fr g) (fun s hs => statesF_len hs) (fun _ => h1) (List.Perm.refl _) (asc_le (statesF_asc fr))
theorem ahead_go {fr : Fr} {c : Cmd} {lot : List (List Int)} (hf : FrS fr) (hc : CmdOk 3 c fr) (hd : c.depth ≤ 3) (k : P (.tup ((aheadE fr (meanC c fr) lot).map stD)) o) : ∃ d o2, RAhead 3 3 [frD fr, c.D, .tup (lot.map stD)] o d o2 ∧ P d o2 := ⟨_, _, ⟨fr, c, lot, hf.ok, hf.one, hc, hd, rfl, rfl, rfl⟩, k⟩
theorem may_go {fr : Fr} {c : Cmd} {lot : List (List Int)} (hf : FrS fr) (hc : CmdOk 3 c fr) (hd : c.depth ≤ 3) (k : P (.tup ((mayE fr (meanC c fr) lot).map stD)) o) : ∃ d o2, RMay 3 3 [frD fr, c.D, .tup (lot.map stD)] o d o2 ∧ P d o2 := ⟨_, _, ⟨fr, c, lot, hf.ok, hf.one, hc, hd, rfl, rfl, rfl⟩, k⟩
theorem least_go {fr : Fr} {c : Cmd} (hf : FrS fr) (hc : CmdOk 3 c fr) (hd : c.depth ≤ 3) (k : P (.tup ((aheadE fr (meanC c fr) (statesF fr)).map stD)) o) : ∃ d o2, RLeast 3 3 [frD fr, c.D] o d o2 ∧ P d o2 := ⟨_, _, ⟨fr, c, hf.ok, hf.one, hc, hd, rfl, rfl, rfl⟩, k⟩
theorem meant_go {fr : Fr} {c : Cmd} (hf : FrS fr) (hc : CmdOk 3 c fr) (hd : c.depth ≤ 3) (k : P (tabD fr (meanC c fr)) o) : ∃ d o2, RMeant 3 3 [frD fr, c.D] o d o2 ∧ P d o2 := ⟨_, _, ⟨fr, c, hf.ok, hf.one, hc, hd, rfl, rfl, rfl⟩, k⟩
theorem from_go {fr : Fr} {c : Cmd} {lot : List (List Int)} (hf : FrS fr) (hc : CmdOk 3 c fr) (hd : c.depth ≤ 3) (hl : ∀ s ∈ lot, s ∈ statesF fr) (h2 : lot.length ≤ 1000) (k : P (endsD (bothE (lot.map (meanC c fr)))) o) : ∃ d o2, RFrom 3 3 [frD fr, c.D, .tup (lot.map stD)] o d o2 ∧ P d o2 := ⟨_, _, ⟨fr, c, lot, hf.ok, hf.one, hc, hd, hl, h2, rfl, rfl, rfl⟩, k⟩
theorem both_go {a b : List (List Int)} (h : a.length ≤ 1000) (k : P (.tup ((bothL a b).map stD)) o) : ∃ d o2, RBothL [.tup (a.map stD), .tup (b.map stD)] o d o2 ∧ P d o2 := ⟨_, _, ⟨a, b, h, rfl, rfl, rfl⟩, k⟩
abbrev RLawStates : List D → Own → D → Own → Prop := fun ds o d o' => ∃ fr : Fr, FrOk fr ∧ ds = [frD fr] ∧ d = .lst ((statesF fr).map stD) ∧ o' = o
theorem sts_go {fr : Fr} (hf : FrS fr) (k : P (.lst ((statesF fr).map stD)) o) : ∃ d o2, RLawStates [frD fr] o d o2 ∧ P d o2 := ⟨_, _, ⟨fr, hf.ok, rfl, rfl, rfl⟩, k⟩
theorem same_go {a b : D} (hs : Same a b) (hw : wtD b ≤ 100000) (k : P (.bl true) o) : ∃ d o2, RSame [a, b] o d o2 ∧ P d o2 := ⟨_, _, ⟨a, b, hs, hw, rfl, rfl, rfl⟩, k⟩
theorem ix_tabN {fr : Fr} {g : Mean} {s : List Int} (hu : X.A.units + 1 < cLine) (hs : s ∈ statesF fr) (hq : g s = none) : IxD X o (tabD fr g) (stD s) .non := ix_get hu (by
  have z := gets_S (K := X.K) (o := o) (m := (statesF fr).map fun s => (s, endsD (g s))) (s := s)
  rw [valD_tab (α := Unit) (fun s => endsD (g s)) hs, hq] at z
  exact z)
theorem ix_tabS {fr : Fr} {g : Mean} {s : List Int} {L : List (List Int)} (hu : X.A.units + 1 < cLine) (hs : s ∈ statesF fr) (hq : g s = some L) : IxD X o (tabD fr g) (stD s) (.tup (L.map stD)) := ix_get hu (by
  have z := gets_S (K := X.K) (o := o) (m := (statesF fr).map fun s => (s, endsD (g s))) (s := s)
  rw [valD_tab (α := Unit) (fun s => endsD (g s)) hs, hq] at z
  exact z)
theorem from_goC {fr : Fr} {c : Cmd} {lot : List (List Int)} (hf : FrS fr) (hc : CmdOk 3 c fr) (hd : c.depth ≤ 3) (hl : ∀ s ∈ lot, s ∈ statesF fr) (h2 : lot.length ≤ 1000) (k1 : bothE (lot.map (meanC c fr)) = none → P .non o) (k2 : ∀ L, bothE (lot.map (meanC c fr)) = some L → P (.tup (L.map stD)) o) :
    ∃ d o2, RFrom 3 3 [frD fr, c.D, .tup (lot.map stD)] o d o2 ∧ P d o2 := from_go hf hc hd hl h2 (by
  cases q : bothE (lot.map (meanC c fr)) with
  | none => exact k1 q
  | some L => exact k2 L q)
/-- sorted(set(x)) of states -/
theorem w_sset {γ : Sto} {e : Expr} {pos pos' p p' : Pos} {xs U : List (List Int)} {k : Nat} (hc : X.calm = true) (hu : X.A.units + 3 < cLine) (B : Bi X.mg) (ha : RE X e γ o (.tup (xs.map stD)) o) (hk : ∀ x ∈ xs, x.length = k) (h1 : 1 ≤ k) (hU : U.length < 63) (hx : ∀ x ∈ xs, x ∈ U) (q : P (.lst ((sortA xs).map stD)) o)
    (hg : Gl X "sorted" := by rfl) (hg' : Gl X "set" := by rfl) (he : starEach [e] X.env = (false, eval e X.env) :: starEach [] X.env := by rfl)
    (he' : starEach [.Call (.Name "set" p') [e] [] pos'] X.env = (false, eval (.Call (.Name "set" p') [e] [] pos') X.env) :: starEach [] X.env := by rfl) : REG X (.Call (.Name "sorted" p) [.Call (.Name "set" p') [e] [] pos'] [] pos) γ o P :=
  w_of (re_sortedSet hc hu B.sorted B.set ha (.inr rfl) hk h1 hU hx hg hg' he he') q
theorem re_catS {γ : Sto} {a b : Expr} {pos : Pos} {xs ys : List (List Int)} (ha : RE X a γ o (.tup (xs.map stD)) o) (hb : RE X b γ o (.tup (ys.map stD)) o) (hl : xs.length + ys.length ≤ 100000) : RE X (.BinOp a .Add b pos) γ o (.tup ((xs ++ ys).map stD)) o :=
  re_eq (re_bin ha hb (bin_addT (by rw [List.length_map, List.length_map]; exact hl))) (by rw [List.map_append])
theorem filt_isIn (L lot : List (List Int)) : ((L.filter fun e => !decide (e ∈ lot)).map stD).isEmpty = isIn (some L) lot := by
  rw [List.isEmpty_map]
  refine Bool.eq_iff_iff.mpr ?_
  rw [List.isEmpty_iff, List.filter_eq_nil_iff, isIn_iff]
  constructor
  · intro h
    exact ⟨L, rfl, fun e he => by have z := h e he; simpa using z⟩
  · rintro ⟨L', q, h⟩ e he
    cases q
    have z := h e he
    simpa using z
theorem ix_tab {fr : Fr} {g : Mean} {s : List Int} (hu : X.A.units + 1 < cLine) (hs : s ∈ statesF fr) : IxD X o (tabD fr g) (stD s) (endsD (g s)) := ix_get hu (by
  have z := gets_S (K := X.K) (o := o) (m := (statesF fr).map fun s => (s, endsD (g s))) (s := s)
  rw [valD_tab (α := Unit) (fun s => endsD (g s)) hs] at z
  exact z)
end
section
variable {P : Program} {w : World} {K : PySem.W.Frag} {mg : Str → Option Value} {base : Heap} {f : Addr} {fd : FuncData}
def HLot (P : Program) (w : World) (K : PySem.W.Frag) (mg : Str → Option Value) (base : Heap) : Prop := ∀ L : List (List Int), L.length ≤ 1000 → HGen P w K mg base "_law_lot" 2 [.lst (L.map stD)] fun d => ∃ L' : List (List Int), L'.Sublist L ∧ d = .tup (L'.map stD)
theorem gen_lot (h : Has P w K mg base "_law_lot" 2 2 RLot) : HLot P w K mg base := fun L hL => gen_of h rfl fun dr o0 p n hdr hw => ⟨_, _, ⟨dr, o0, p, n, L, hdr, hw, hL, rfl, rfl, rfl, rfl⟩, _, lotG_sub dr L n, rfl⟩
/-- what the law calls -/
structure Needs49 (P : Program) (w : World) (K : PySem.W.Frag) (mg : Str → Option Value) (base : Heap) : Prop where
  draws : HDraws P w K mg base
  frame : HFrame P w K mg base
  states : Has P w K mg base "_law_states" 1 1 RLawStates
  cmd : ∀ n, HCmd P w K mg base n
  lot : HLot P w K mg base
  meant : Has P w K mg base "meant" 15 2 (RMeant 3 3)
  ahead : Has P w K mg base "ahead_of" 16 3 (RAhead 3 3)
  may : Has P w K mg base "may_ahead" 16 3 (RMay 3 3)
  least : Has P w K mg base "least_ahead" 17 2 (RLeast 3 3)
  from' : Has P w K mg base "ends_from" 16 3 (RFrom 3 3)
  both : Has P w K mg base "_law_both" 1 2 RBothL
  same : Has P w K mg base "_law_same" 1 2 RSame
local macro_rules | `(tactic| walk_at "call") => `(tactic| first
  | ((with_reducible show REG _ (Expr.Call (Expr.Name "_law_same" _) _ _ _) _ _ _); refine w_callR (n := 2) (R := RSame) (by assumption) (Room.mono (by assumption) (by decide)) ?_)
  | ((with_reducible show REG _ (Expr.Call (Expr.Name "_law_both" _) _ _ _) _ _ _); refine w_callR (n := 2) (R := RBothL) (by assumption) (Room.mono (by assumption) (by decide)) ?_)
  | ((with_reducible show REG _ (Expr.Call (Expr.Name "_law_states" _) _ _ _) _ _ _); refine w_callR (n := 1) (R := RLawStates) (by assumption) (Room.mono (by assumption) (by decide)) ?_)
  | ((with_reducible show REG _ (Expr.Call (Expr.Name "ahead_of" _) _ _ _) _ _ _); refine w_callR (n := 3) (R := RAhead 3 3) (by assumption) (Room.mono (by assumption) (by decide)) ?_)
  | ((with_reducible show REG _ (Expr.Call (Expr.Name "may_ahead" _) _ _ _) _ _ _); refine w_callR (n := 3) (R := RMay 3 3) (by assumption) (Room.mono (by assumption) (by decide)) ?_)
  | ((with_reducible show REG _ (Expr.Call (Expr.Name "least_ahead" _) _ _ _) _ _ _); refine w_callR (n := 2) (R := RLeast 3 3) (by assumption) (Room.mono (by assumption) (by decide)) ?_)
  | ((with_reducible show REG _ (Expr.Call (Expr.Name "ends_from" _) _ _ _) _ _ _); refine w_callR (n := 3) (R := RFrom 3 3) (by assumption) (Room.mono (by assumption) (by decide)) ?_)
  | ((with_reducible show REG _ (Expr.Call (Expr.Name "meant" _) _ _ _) _ _ _); refine w_callR (n := 2) (R := RMeant 3 3) (by assumption) (Room.mono (by assumption) (by decide)) ?_)
  | ((with_reducible show REG _ (Expr.Call (Expr.Name "_law_command" _) _ _ _) _ _ _); refine w_cmd (deep := 2) (by assumption) (by assumption) (by assumption) (by assumption) (by walk_at "ra") (by decide) (Room.mono (by assumption) (by decide)) ?_; intro c m hc hd)
  | ((with_reducible show REG _ (Expr.Call (Expr.Name "_law_command" _) _ _ _) _ _ _); refine w_cmd (deep := 1) (by assumption) (by assumption) (by assumption) (by assumption) (by walk_at "ra") (by decide) (Room.mono (by assumption) (by decide)) ?_; intro c m hc hd))
local macro_rules | `(tactic| walk_at "st1") => `(tactic| first
  | ((with_reducible show ∃ d o2, RAhead _ _ _ _ d o2 ∧ _); first | refine ahead_go (by assumption) (by assumption) (by assumption) ?_ | refine ahead_go (c := Cmd.seq _ _) (by assumption) (by assumption) (by assumption) ?_ | refine ahead_go (c := Cmd.any _ _) (by assumption) (by assumption) (by assumption) ?_)
  | ((with_reducible show ∃ d o2, RMay _ _ _ _ d o2 ∧ _); refine may_go (by assumption) (by assumption) (by assumption) ?_)
  | ((with_reducible show ∃ d o2, RLeast _ _ _ _ d o2 ∧ _); refine least_go (by assumption) (by assumption) (by assumption) ?_)
  | ((with_reducible show ∃ d o2, RMeant _ _ _ _ d o2 ∧ _); refine meant_go (by assumption) (by assumption) (by assumption) ?_)
  | ((with_reducible show ∃ d o2, RBothL _ _ d o2 ∧ _); refine both_go (by first | omega | exact Nat.le_trans (List.length_filter_le _ _) (by omega)) ?_)
  | ((with_reducible show ∃ d o2, RLawStates _ _ d o2 ∧ _); refine sts_go (by assumption) ?_)
  | ((with_reducible show ∃ d, IxD _ _ (tabD _ _) _ d ∧ _); first | refine ⟨_, ix_tabN (by assumption) (by assumption) (by assumption), ?_⟩ | refine ⟨_, ix_tabS (by assumption) (by assumption) (by assumption), ?_⟩)
  | ((with_reducible show ∃ d, BltD _ "sorted" _ [tabD _ _] d ∧ _); refine ⟨_, srt_tab rfl (by assumption), ?_⟩)
  | ((with_reducible show ∃ d, BltD _ "isinstance" _ [tabD _ _, _] d ∧ _); refine ⟨_, isi_dT_dict, ?_⟩)
  | ((with_reducible show ∃ k, CmpD _ _ _ (D.lst _) (D.lst _) _ ∧ _); refine ⟨_, cmp_neSts (by assumption), ?_⟩))
local macro_rules | `(tactic| walk_at "lcs") => `(tactic| refine w_l (wl_lcE [("state", 18)] rfl (by assumption) (blkOk_by (N := n_law) (sc := defScope s_law) (by decide +kernel)) ?_))
local macro_rules | `(tactic| walk_at "lce") => `(tactic| refine w_l (wl_lcE [("end", 19)] rfl (by assumption) (blkOk_by (N := n_law) (by kernel_rfl)) ?_))
local macro_rules | `(tactic| walk_at "lc1") => `(tactic| refine w_l (wl_lcE [("end", 19)] rfl (by assumption) (blkOk_by (N := n_law) (sc := defScope s_law) (by decide +kernel)) ?_))
local macro_rules | `(tactic| walk_at "les") => `(tactic| repeat (first | exact LeS.nil | refine LeS.cons _ ?_ | refine LeS.drop _ ?_))
local macro_rules | `(tactic| walk_at "name") => `(tactic| first
  | ((with_reducible show REG _ (Expr.Name "script" _) _ _ _); refine w_val 0 rfl rfl (by walk_at "vis") ?_)
  | ((with_reducible show REG _ (Expr.Name "w" _) _ _ _); refine w_val 1 rfl rfl (by walk_at "vis") ?_)
  | ((with_reducible show REG _ (Expr.Name "turn" _) _ _ _); refine w_val 2 rfl rfl (by walk_at "vis") ?_)
  | ((with_reducible show REG _ (Expr.Name "frame" _) _ _ _); refine w_val 3 rfl rfl (by walk_at "vis") ?_)
  | ((with_reducible show REG _ (Expr.Name "states" _) _ _ _); refine w_val 4 rfl rfl (by walk_at "vis") ?_)
  | ((with_reducible show REG _ (Expr.Name "a" _) _ _ _); refine w_val 5 rfl rfl (by walk_at "vis") ?_)
  | ((with_reducible show REG _ (Expr.Name "b" _) _ _ _); refine w_val 6 rfl rfl (by walk_at "vis") ?_)
  | ((with_reducible show REG _ (Expr.Name "lot" _) _ _ _); refine w_val 7 rfl rfl (by walk_at "vis") ?_)
  | ((with_reducible show REG _ (Expr.Name "other" _) _ _ _); refine w_val 8 rfl rfl (by walk_at "vis") ?_)
  | ((with_reducible show REG _ (Expr.Name "told" _) _ _ _); refine w_val 9 rfl rfl (by walk_at "vis") ?_)
  | ((with_reducible show REG _ (Expr.Name "first" _) _ _ _); refine w_val 10 rfl rfl (by walk_at "vis") ?_)
  | ((with_reducible show REG _ (Expr.Name "second" _) _ _ _); refine w_val 11 rfl rfl (by walk_at "vis") ?_)
  | ((with_reducible show REG _ (Expr.Name "due" _) _ _ _); refine w_val 12 rfl rfl (by walk_at "vis") ?_)
  | ((with_reducible show REG _ (Expr.Name "rest" _) _ _ _); refine w_val 13 rfl rfl (by walk_at "vis") ?_)
  | ((with_reducible show REG _ (Expr.Name "ends" _) _ _ _); refine w_val 14 rfl rfl (by walk_at "vis") ?_)
  | ((with_reducible show REG _ (Expr.Name "more" _) _ _ _); refine w_val 15 rfl rfl (by walk_at "vis") ?_)
  | ((with_reducible show REG _ (Expr.Name "whole" _) _ _ _); refine w_val 16 rfl rfl (by walk_at "vis") ?_)
  | ((with_reducible show REG _ (Expr.Name "is_led" _) _ _ _); refine w_val 17 rfl rfl (by walk_at "vis") ?_)
  | ((with_reducible show REG _ (Expr.Name "state" _) _ _ _); refine w_val 18 rfl rfl (by walk_at "vis") ?_)
  | ((with_reducible show REG _ (Expr.Name "end" _) _ _ _); refine w_val 19 rfl rfl (by walk_at "vis") ?_))
local macro_rules | `(tactic| walk_at "set") => `(tactic| first
  | ((with_reducible show WS _ (Stmt.Assign [Expr.Name "script" _] _ _) _ _ _ _ _ _); refine ws_set 0 (by walk_at "nd") rfl (by walk_at "loc") ?_)
  | ((with_reducible show WS _ (Stmt.Assign [Expr.Name "w" _] _ _) _ _ _ _ _ _); refine ws_set 1 (by walk_at "nd") rfl (by walk_at "loc") ?_)
  | ((with_reducible show WS _ (Stmt.Assign [Expr.Name "turn" _] _ _) _ _ _ _ _ _); refine ws_set 2 (by walk_at "nd") rfl (by walk_at "loc") ?_)
  | ((with_reducible show WS _ (Stmt.Assign [Expr.Name "frame" _] _ _) _ _ _ _ _ _); refine ws_set 3 (by walk_at "nd") rfl (by walk_at "loc") ?_)
  | ((with_reducible show WS _ (Stmt.Assign [Expr.Name "states" _] _ _) _ _ _ _ _ _); refine ws_set 4 (by walk_at "nd") rfl (by walk_at "loc") ?_)
  | ((with_reducible show WS _ (Stmt.Assign [Expr.Name "a" _] _ _) _ _ _ _ _ _); refine ws_set 5 (by walk_at "nd") rfl (by walk_at "loc") ?_)
  | ((with_reducible show WS _ (Stmt.Assign [Expr.Name "b" _] _ _) _ _ _ _ _ _); refine ws_set 6 (by walk_at "nd") rfl (by walk_at "loc") ?_)
  | ((with_reducible show WS _ (Stmt.Assign [Expr.Name "lot" _] _ _) _ _ _ _ _ _); refine ws_set 7 (by walk_at "nd") rfl (by walk_at "loc") ?_)
  | ((with_reducible show WS _ (Stmt.Assign [Expr.Name "other" _] _ _) _ _ _ _ _ _); refine ws_set 8 (by walk_at "nd") rfl (by walk_at "loc") ?_)
  | ((with_reducible show WS _ (Stmt.Assign [Expr.Name "told" _] _ _) _ _ _ _ _ _); refine ws_set 9 (by walk_at "nd") rfl (by walk_at "loc") ?_)
  | ((with_reducible show WS _ (Stmt.Assign [Expr.Name "first" _] _ _) _ _ _ _ _ _); refine ws_set 10 (by walk_at "nd") rfl (by walk_at "loc") ?_)
  | ((with_reducible show WS _ (Stmt.Assign [Expr.Name "second" _] _ _) _ _ _ _ _ _); refine ws_set 11 (by walk_at "nd") rfl (by walk_at "loc") ?_)
  | ((with_reducible show WS _ (Stmt.Assign [Expr.Name "due" _] _ _) _ _ _ _ _ _); refine ws_set 12 (by walk_at "nd") rfl (by walk_at "loc") ?_)
  | ((with_reducible show WS _ (Stmt.Assign [Expr.Name "rest" _] _ _) _ _ _ _ _ _); refine ws_set 13 (by walk_at "nd") rfl (by walk_at "loc") ?_)
  | ((with_reducible show WS _ (Stmt.Assign [Expr.Name "ends" _] _ _) _ _ _ _ _ _); refine ws_set 14 (by walk_at "nd") rfl (by walk_at "loc") ?_)
  | ((with_reducible show WS _ (Stmt.Assign [Expr.Name "more" _] _ _) _ _ _ _ _ _); refine ws_set 15 (by walk_at "nd") rfl (by walk_at "loc") ?_)
  | ((with_reducible show WS _ (Stmt.Assign [Expr.Name "whole" _] _ _) _ _ _ _ _ _); refine ws_set 16 (by walk_at "nd") rfl (by walk_at "loc") ?_)
  | ((with_reducible show WS _ (Stmt.Assign [Expr.Name "is_led" _] _ _) _ _ _ _ _ _); refine ws_set 17 (by walk_at "nd") rfl (by walk_at "loc") ?_)
  | ((with_reducible show WS _ (Stmt.Assign [Expr.Name "state" _] _ _) _ _ _ _ _ _); refine ws_set 18 (by walk_at "nd") rfl (by walk_at "loc") ?_)
  | ((with_reducible show WS _ (Stmt.Assign [Expr.Name "end" _] _ _) _ _ _ _ _ _); refine ws_set 19 (by walk_at "nd") rfl (by walk_at "loc") ?_))
local macro_rules | `(tactic| walk_at "var") => `(tactic| first
  | ((with_reducible show RE _ (Expr.Name "script" _) _ _ _ _); exact re_v 0 rfl rfl (by walk_at "vis"))
  | ((with_reducible show RE _ (Expr.Name "w" _) _ _ _ _); exact re_v 1 rfl rfl (by walk_at "vis"))
  | ((with_reducible show RE _ (Expr.Name "turn" _) _ _ _ _); exact re_v 2 rfl rfl (by walk_at "vis"))
  | ((with_reducible show RE _ (Expr.Name "frame" _) _ _ _ _); exact re_v 3 rfl rfl (by walk_at "vis"))
  | ((with_reducible show RE _ (Expr.Name "states" _) _ _ _ _); exact re_v 4 rfl rfl (by walk_at "vis"))
  | ((with_reducible show RE _ (Expr.Name "a" _) _ _ _ _); exact re_v 5 rfl rfl (by walk_at "vis"))
  | ((with_reducible show RE _ (Expr.Name "b" _) _ _ _ _); exact re_v 6 rfl rfl (by walk_at "vis"))
  | ((with_reducible show RE _ (Expr.Name "lot" _) _ _ _ _); exact re_v 7 rfl rfl (by walk_at "vis"))
  | ((with_reducible show RE _ (Expr.Name "other" _) _ _ _ _); exact re_v 8 rfl rfl (by walk_at "vis"))
  | ((with_reducible show RE _ (Expr.Name "told" _) _ _ _ _); exact re_v 9 rfl rfl (by walk_at "vis"))
  | ((with_reducible show RE _ (Expr.Name "first" _) _ _ _ _); exact re_v 10 rfl rfl (by walk_at "vis"))
  | ((with_reducible show RE _ (Expr.Name "second" _) _ _ _ _); exact re_v 11 rfl rfl (by walk_at "vis"))
  | ((with_reducible show RE _ (Expr.Name "due" _) _ _ _ _); exact re_v 12 rfl rfl (by walk_at "vis"))
  | ((with_reducible show RE _ (Expr.Name "rest" _) _ _ _ _); exact re_v 13 rfl rfl (by walk_at "vis"))
  | ((with_reducible show RE _ (Expr.Name "ends" _) _ _ _ _); exact re_v 14 rfl rfl (by walk_at "vis"))
  | ((with_reducible show RE _ (Expr.Name "more" _) _ _ _ _); exact re_v 15 rfl rfl (by walk_at "vis"))
  | ((with_reducible show RE _ (Expr.Name "whole" _) _ _ _ _); exact re_v 16 rfl rfl (by walk_at "vis"))
  | ((with_reducible show RE _ (Expr.Name "is_led" _) _ _ _ _); exact re_v 17 rfl rfl (by walk_at "vis"))
  | ((with_reducible show RE _ (Expr.Name "state" _) _ _ _ _); exact re_v 18 rfl rfl (by walk_at "vis"))
  | ((with_reducible show RE _ (Expr.Name "end" _) _ _ _ _); exact re_v 19 rfl rfl (by walk_at "vis")))
theorem fn_law (F : Fun K "law" "law" s_law f fd) (B : Bi mg) (N : Needs49 P w K mg base) : FnOk P w K mg base CX0 18 f fd ["script"] (spD K RLaw) := by
  refine fn_mkW (k := 17) F sc_law (by rintro _ _ _ _ ⟨ns, _, rfl, _⟩; rfl) fun cdv A outer s0 H E ds o d o' hr hnd hR => ?_
  obtain ⟨ns, hns, rfl, rfl, rfl⟩ := hR
  obtain ⟨hdraws, hframe, hstates, hcmd, hlot, hmeant, hahead, hmay, hleast, hfrom, hboth, hsame⟩ := N
  have hcmd2 := hcmd 2
  have hcmd1 := hcmd 1
  refine wb_dropR ?_
  have u1 := J.Room.u1 hr
  have u3 := J.Room.u3 hr
  have u64 := J.Room.u64 hr
  walk_at "go1"
  walk_at "cons"
  walk_at "go1"
  refine w_disp fun p hp => ?_
  refine w_str ⟨.inr "draws", rfl, w_call hdraws (hr.mono (by decide)) ?_⟩
  walk_at "go1"
  refine ⟨⟨ns, 4000, hns, by decide, by decide, rfl⟩, ?_⟩
  rintro _ _ ⟨dr, hdr, rfl, rfl⟩
  refine w_str ⟨.inr "at", rfl, w_int ⟨_, rfl, hp, ?_⟩⟩
  have e0 : ((p, D.dK (mergeD [] [((Sum.inr "draws" : Key), D.lst (dr.map .int)), (Sum.inr "at", D.int 0)])) :: o' : Own) = oW ((p, .non) :: o') p dr 0 := by
    show _ = setO ((p, .non) :: o') p (wD dr 0)
    rw [setO_cons hp]; rfl
  rw [e0]
  have hw : IsW ((p, .non) :: o') p := List.mem_cons_self
  walk_at "go1"
  refine wb_cut (fun γ' o1 => ∃ m, γ' = [some (.sl (ns.map .int)), some (.adr p), none, none, none, none, none, none, none, none, none, none, none, none, none, none, none, none, none, none] ∧ o1 = oW ((p, .non) :: o') p dr m) ?_ ?_
  · refine ws_for (List.range 6) (fun i : Nat => D.int (0 + (i : Int))) (fun i γ' o1 => ∃ m, γ' = [some (.sl (ns.map .int)), some (.adr p), none, none, none, none, none, none, none, none, none, none, none, none, none, none, none, none, none, none] ∧ o1 = oW ((p, .non) :: o') p dr m) rfl PassesOwn.never (wi_of (ri_range1 rfl B.range (by walk_at "ra") (by decide)) ⟨rfl, ⟨0, rfl, rfl⟩, fun _ _ _ _ => trivial⟩) ?_ (fun _ _ h => h)
    rintro i i' γ' o1 hi ⟨m, rfl, rfl⟩
    refine ⟨_, _, rg_name 2 hnd rfl (by walk_at "loc"), wb_forgetN ?_⟩
    clear hi
    walk_at "go1"
    -- frame
    walk_at "cons"
    walk_at "go1"
    refine w_genR hframe hdr hw (hr.mono (by decide)) (by walk_at "ra") rfl ?_
    rintro _ m1 ⟨fr, hfc, hfl, rfl⟩
    have hfs : FrS fr := hfc.s
    have hfc1 : FrC 1 fr := hfc.less
    have hone := hfs.one
    walk_at "go1"
    -- states, a, b
    walk_at "cons"
    refine ws_par3 4 5 6 rfl hnd rfl rfl rfl (by decide) (by decide) (by decide) rfl rfl rfl ?_ rfl
    walk_at "go1"
    rename_i a _ ha had b m2 hb hbd
    have oka := cmdwf_ok (k := 3) (by decide) hfs.ok ha
    have okb := cmdwf_ok (k := 3) (by decide) hfs.ok hb
    have da : a.depth ≤ 3 := Nat.le_trans had (by decide)
    have db : b.depth ≤ 3 := Nat.le_trans hbd (by decide)
    have okab : CmdOk 3 (.seq a b) fr := by rw [CmdOk]; exact ⟨oka, okb⟩
    have okor : CmdOk 3 (.any a b) fr := by rw [CmdOk]; exact ⟨oka, okb⟩
    have dab : (Cmd.seq a b).depth ≤ 3 := by rw [Cmd.depth]; exact Nat.succ_le_succ (Nat.max_le.mpr ⟨had, Nat.le_trans hbd (by decide)⟩)
    have dor : (Cmd.any a b).depth ≤ 3 := by rw [Cmd.depth]; exact Nat.succ_le_succ (Nat.max_le.mpr ⟨had, Nat.le_trans hbd (by decide)⟩)
    have g := meanC_ok hfs.ok oka
    have h60 := hfs.ok.le60
    refine ⟨_, _, _, rfl, ?_⟩
    walk_at "go1"
    -- lot, other, told
    walk_at "cons"
    refine ws_unp (w_tup ?_)
    refine wa_cons (w_genR (hlot (statesF fr) (by omega)) hdr hw (hr.mono (by decide)) (by walk_at "ra") rfl ?_)
    rintro _ m3 ⟨lot, hlot1, rfl⟩
    refine wa_cons (w_genR (hlot (statesF fr) (by omega)) hdr hw (hr.mono (by decide)) (by walk_at "ra") rfl ?_)
    rintro _ m4 ⟨oth, hoth1, rfl⟩
    walk_at "go1"
    refine ⟨_, _, rg_tup rfl (rgs_cons (rg_name 7 hnd rfl (by walk_at "loc")) (rgs_cons (rg_name 8 hnd rfl (by walk_at "loc")) (rgs_cons (rg_name 9 hnd rfl (by walk_at "loc")) rgs_nil))), ?_⟩
    walk_at "go1"
    have hlotS : ∀ s ∈ lot, s ∈ statesF fr := fun s h => hlot1.subset h
    have hothS : ∀ s ∈ oth, s ∈ statesF fr := fun s h => hoth1.subset h
    have hlotL : lot.length ≤ 60 := Nat.le_trans hlot1.length_le h60
    have hothL : oth.length ≤ 60 := Nat.le_trans hoth1.length_le h60
    -- told
    walk_at "cons"
    walk_at "go1"
    -- first, second
    walk_at "cons"
    refine ws_unp ?_
    walk_at "go1"
    refine ⟨_, _, rg_tup rfl (rgs_cons (rg_name 10 hnd rfl (by walk_at "loc")) (rgs_cons (rg_name 11 hnd rfl (by walk_at "loc")) rgs_nil)), ?_⟩
    walk_at "go1"
    -- due
    walk_at "cons"
    walk_at "go1"
    walk_at "lcs"
    refine wi_list ?_
    walk_at "go1"
    refine ⟨_, rfl, lcp_pure (fun s => isIn (meanC a fr s) lot) stD trivial (by omega) (fun s hs => ⟨_, _, ?_, fun q => rg_name 18 hnd rfl (by walk_at "loc"), fun q => wts_one ?_, fun _ q => ?_⟩) ?_⟩
    · decide
    · have gs := (g s hs).few
      cases hq : meanC a fr s with
      | none =>
        walk_at "go1"
        exact ⟨rfl, rfl⟩
      | some L =>
        rw [hq] at gs
        have gs : L.length ≤ 60 := gs
        walk_at "go1"
        walk_at "lce"
        refine wi_tup ?_
        walk_at "go1"
        refine ⟨_, rfl, lcp_pure (fun e => !decide (e ∈ lot)) stD trivial (by omega) (fun e he => ⟨_, _, ?_, fun q => rg_name 19 hnd rfl (by walk_at "loc"), fun q => wts_one ?_, fun _ q => ?_⟩) ?_⟩
        · decide
        · walk_at "go1"
          exact ⟨rfl, rfl⟩
        · walk_at "go1"
          exact ⟨rfl, rfl⟩
        · walk_at "go1"
          exact ⟨filt_isIn L lot, rfl⟩
    · walk_at "go1"
      exact ⟨rfl, rfl⟩
    walk_at "go1"
    have wtA : ∀ q : List Int → Bool, wtD (.tup (((statesF fr).filter q).map stD)) ≤ 100000 := fun q => wt_lot (fun s h => (List.mem_filter.mp h).1) hfs.ok (Nat.le_trans (List.length_filter_le _ _) (by omega))
    -- first is due
    walk_at "cons"
    walk_at "go1"
    refine same_go (same_lot _) (wtA _) ?_
    walk_at "go"
    -- both
    rw [ahead_both fr _ lot oth]
    refine same_go (same_lot _) (wt_lot (fun s h => (List.mem_filter.mp (List.mem_filter.mp h).1).1) hfs.ok (Nat.le_trans (List.length_filter_le _ _) (Nat.le_trans (List.length_filter_le _ _) (by omega)))) ?_
    walk_at "go"
    -- then
    rw [ahead_seq hfs.ok oka lot]
    refine same_go (same_lot _) (wtA _) ?_
    walk_at "go"
    -- any
    rw [ahead_any fr a b lot]
    refine same_go (same_lot _) (wt_lot (fun s h => (List.mem_filter.mp (List.mem_filter.mp h).1).1) hfs.ok (Nat.le_trans (List.length_filter_le _ _) (Nat.le_trans (List.length_filter_le _ _) (by omega)))) ?_
    walk_at "go"
    -- rest
    walk_at "lcs"
    refine wi_list ?_
    walk_at "go1"
    refine ⟨_, rfl, lcp_pure (fun s => !decide (s ∈ lot)) stD trivial (by omega) (fun s hs => ⟨_, _, ?_, fun q => rg_name 18 hnd rfl (by walk_at "loc"), fun q => wts_one ?_, fun _ q => ?_⟩) ?_⟩
    · decide
    · walk_at "go1"
      exact ⟨rfl, rfl⟩
    · walk_at "go1"
      exact ⟨rfl, rfl⟩
    walk_at "go"
    walk_at "lcs"
    refine wi_list ?_
    walk_at "go1"
    refine ⟨_, rfl, lcp_pure (fun s => !decide (s ∈ aheadE fr (meanC a fr) lot)) stD trivial (by omega) (fun s hs => ⟨_, _, ?_, fun q => rg_name 18 hnd rfl (by walk_at "loc"), fun q => wts_one ?_, fun _ q => ?_⟩) ?_⟩
    · decide
    · walk_at "go1"
      exact ⟨rfl, rfl⟩
    · walk_at "go1"
      exact ⟨rfl, rfl⟩
    walk_at "go1"
    rw [may_rest g lot]
    refine same_go (same_lot _) (wtA _) ?_
    walk_at "go"
    -- least
    walk_at "lcs"
    refine wi_list ?_
    walk_at "go1"
    refine ⟨_, rfl, lcp_pure (fun s => (meanC a fr s).isSome) stD trivial (by omega) (fun s hs => ⟨_, _, ?_, fun q => rg_name 18 hnd rfl (by walk_at "loc"), fun q => wts_one ?_, fun _ q => ?_⟩) ?_⟩
    · decide
    · cases hq : meanC a fr s with
      | none =>
        walk_at "go1"
        exact ⟨rfl, rfl⟩
      | some L =>
        walk_at "go1"
        exact ⟨rfl, rfl⟩
    · walk_at "go1"
      exact ⟨rfl, rfl⟩
    walk_at "go1"
    rw [least_is g]
    refine same_go (same_lot _) (wtA _) ?_
    walk_at "go1"
    -- ends, more
    walk_at "go1"
    walk_at "cons"
    have hcat : ∀ s ∈ lot ++ oth, s ∈ statesF fr := fun s hs => (List.mem_append.mp hs).elim (hlotS s) (hothS s)
    have hcatk : ∀ s ∈ lot ++ oth, s.length = fr.length := fun s hs => statesF_len (hcat s hs)
    have hsort : ∀ s ∈ sortA (lot ++ oth), s ∈ statesF fr := fun s hs => hcat s ((sortA_mem s _).mp hs)
    have hsl := sort_len hfs.ok hcat
    have e1ok : EnOk fr (bothE (lot.map (meanC a fr))) := bothE_ok hfs.ok fun r hr => by obtain ⟨s, hs, rfl⟩ := List.mem_map.mp hr; exact (g s (hlotS s hs)).inn
    have e2ok : EnOk fr (bothE (oth.map (meanC a fr))) := bothE_ok hfs.ok fun r hr => by obtain ⟨s, hs, rfl⟩ := List.mem_map.mp hr; exact (g s (hothS s hs)).inn
    have led := led_iff (fr := fr) (g := meanC a fr) (oth := oth) hlotS
    have lemp : ((lot.filter fun s => !decide (s ∈ aheadE fr (meanC a fr) oth)).map stD).isEmpty = (lot.filter fun s => !decide (s ∈ aheadE fr (meanC a fr) oth)).isEmpty := List.isEmpty_map
    refine ws_par 14 15 rfl hnd rfl rfl (by decide) rfl rfl ?_ rfl
    refine wa_cons ?_
    walk_at "go1"
    refine from_goC hfs oka da hlotS (by omega) (fun hE => ?_) (fun E1 hE => ?_)
    · walk_at "go1"
      refine from_go hfs oka da hothS (by omega) ?_
      generalize endsD (bothE (oth.map (meanC a fr))) = e2
      walk_at "go1"
      refine ⟨_, _, rfl, ?_⟩
      walk_at "go1"
      walk_at "cons"
      walk_at "go1"
      refine w_sset (U := statesF fr) (k := fr.length) rfl u3 B (re_catS (by walk_at "var") (by walk_at "var") (by omega)) hcatk hone (by omega) hcat ?_
      walk_at "go1"
      refine from_go hfs oka da hsort (by omega) ?_
      rw [ends_n1 hE]
      walk_at "go"
      refine same_go (a := endsD none) (b := .non) Same.non (by decide) ?_
      walk_at "go"
      walk_at "lcs"
      refine wi_tup ?_
      walk_at "go1"
      refine ⟨_, rfl, lcp_pure (fun s => !decide (s ∈ aheadE fr (meanC a fr) oth)) stD trivial (by omega) (fun s hs => ⟨_, _, ?_, fun q => rg_name 18 hnd rfl (by walk_at "loc"), fun q => wts_one ?_, fun _ q => ?_⟩) ?_⟩
      · decide
      · walk_at "go1"
        exact ⟨rfl, rfl⟩
      · walk_at "go1"
        exact ⟨rfl, rfl⟩
      walk_at "go"
      · rename_i hne
        exact absurd (by rw [lemp, ← led, hE]; rfl) hne
      · refine ⟨_, ?_, _, rfl, rfl⟩
        walk_at "les"
    · have gs1 : E1.length ≤ 60 := by
        have z := e1ok.few
        rw [hE] at z
        exact z
      walk_at "go1"
      refine from_goC hfs oka da hothS (by omega) (fun hF => ?_) (fun E2 hF => ?_)
      · walk_at "go1"
        refine ⟨_, _, rfl, ?_⟩
        walk_at "go1"
        walk_at "cons"
        walk_at "go1"
        refine w_sset (U := statesF fr) (k := fr.length) rfl u3 B (re_catS (by walk_at "var") (by walk_at "var") (by omega)) hcatk hone (by omega) hcat ?_
        walk_at "go1"
        refine from_go hfs oka da hsort (by omega) ?_
        rw [ends_n2 hF]
        walk_at "go"
        refine same_go (a := endsD none) (b := .non) Same.non (by decide) ?_
        walk_at "go1"
        walk_at "cons"
        walk_at "go1"
        walk_at "lc1"
        refine wi_tup ?_
        walk_at "go1"
        refine ⟨_, rfl, lcp_pure (fun e => !decide (e ∈ oth)) stD trivial (by omega) (fun e he => ⟨_, _, ?_, fun q => rg_name 19 hnd rfl (by walk_at "loc"), fun q => wts_one ?_, fun _ q => ?_⟩) ?_⟩
        · decide
        · walk_at "go1"
          exact ⟨rfl, rfl⟩
        · walk_at "go1"
          exact ⟨rfl, rfl⟩
        walk_at "go1"
        walk_at "cons"
        walk_at "go1"
        walk_at "lcs"
        refine wi_tup ?_
        walk_at "go1"
        refine ⟨_, rfl, lcp_pure (fun s => !decide (s ∈ aheadE fr (meanC a fr) oth)) stD trivial (by omega) (fun s hs => ⟨_, _, ?_, fun q => rg_name 18 hnd rfl (by walk_at "loc"), fun q => wts_one ?_, fun _ q => ?_⟩) ?_⟩
        · decide
        · walk_at "go1"
          exact ⟨rfl, rfl⟩
        · walk_at "go1"
          exact ⟨rfl, rfl⟩
        walk_at "go"
        · rename_i hne
          exact absurd (by rw [filt_isIn, lemp, ← led, hE]) hne
        · refine ⟨_, ?_, _, rfl, rfl⟩
          walk_at "les"
      · have gs2 : E2.length ≤ 60 := by
          have z := e2ok.few
          rw [hF] at z
          exact z
        have hcat2 : ∀ s ∈ E1 ++ E2, s ∈ statesF fr := fun s hs => (List.mem_append.mp hs).elim (e1ok.inn E1 hE s) (e2ok.inn E2 hF s)
        walk_at "go1"
        refine ⟨_, _, rfl, ?_⟩
        walk_at "go1"
        walk_at "cons"
        walk_at "go1"
        refine w_sset (U := statesF fr) (k := fr.length) rfl u3 B (re_catS (by walk_at "var") (by walk_at "var") (by omega)) hcatk hone (by omega) hcat ?_
        walk_at "go1"
        refine from_go hfs oka da hsort (by omega) ?_
        rw [ends_s hE hF]
        walk_at "go"
        refine w_sset (U := statesF fr) (k := fr.length) rfl u3 B (re_catS (by walk_at "var") (by walk_at "var") (by omega)) (fun s hs => statesF_len (hcat2 s hs)) hone (by omega) hcat2 ?_
        walk_at "go"
        refine same_go (a := endsD (some (sortA (E1 ++ E2)))) (same_ends (some (sortA (E1 ++ E2)))) (wt_lot (fun s hs => hcat2 s ((sortA_mem s _).mp hs)) hfs.ok (Nat.le_trans (sort_len hfs.ok hcat2) (by decide))) ?_
        walk_at "go1"
        walk_at "cons"
        walk_at "go1"
        walk_at "lc1"
        refine wi_tup ?_
        walk_at "go1"
        refine ⟨_, rfl, lcp_pure (fun e => !decide (e ∈ oth)) stD trivial (by omega) (fun e he => ⟨_, _, ?_, fun q => rg_name 19 hnd rfl (by walk_at "loc"), fun q => wts_one ?_, fun _ q => ?_⟩) ?_⟩
        · decide
        · walk_at "go1"
          exact ⟨rfl, rfl⟩
        · walk_at "go1"
          exact ⟨rfl, rfl⟩
        walk_at "go1"
        walk_at "cons"
        walk_at "go1"
        walk_at "lcs"
        refine wi_tup ?_
        walk_at "go1"
        refine ⟨_, rfl, lcp_pure (fun s => !decide (s ∈ aheadE fr (meanC a fr) oth)) stD trivial (by omega) (fun s hs => ⟨_, _, ?_, fun q => rg_name 18 hnd rfl (by walk_at "loc"), fun q => wts_one ?_, fun _ q => ?_⟩) ?_⟩
        · decide
        · walk_at "go1"
          exact ⟨rfl, rfl⟩
        · walk_at "go1"
          exact ⟨rfl, rfl⟩
        walk_at "go"
        · rename_i hne
          exact absurd (by rw [filt_isIn, lemp, ← led, hE]) hne
        · refine ⟨_, ?_, _, rfl, rfl⟩
          walk_at "les"
  · rintro γ' o1 ⟨m, rfl, rfl⟩
    walk_at "go"
    refine ⟨o', ?_, rfl, rfl⟩
    unfold oW
    rw [setO_cons hp]
    exact List.sublist_cons_self _ _
end
end J
end

section
set_option Elab.async false
set_option maxHeartbeats 0
set_option linter.all false
set_option maxRecDepth 100000
/-! the head: facts of the top by names -/
namespace J
open PySem PySem.Spec PyProof.Rows L2
def fnD (x : Str) (st : Stmt) : He.FnD := ⟨(x, none), x, x, defArgs st, defBody st, defScope st⟩
abbrev fnH : List He.FnD := [fnD "is_integer" s_is_integer, fnD "names_of" s_names_of, fnD "place_of" s_place_of, fnD "states_of" s_states_of, fnD "is_state" s_is_state, fnD "with_name" s_with_name, fnD "with_values" s_with_values, fnD "worth" s_worth, fnD "holds" s_holds, fnD "inner_frame" s_inner_frame, fnD "meant" s_meant, fnD "values_set" s_values_set, fnD "set_end" s_set_end, fnD "is_kept" s_is_kept, fnD "spec_ends" s_spec_ends, fnD "both_ends" s_both_ends, fnD "ends_by" s_ends_by, fnD "if_meant" s_if_meant, fnD "do_meant" s_do_meant, fnD "local_meant" s_local_meant, fnD "ahead_of" s_ahead_of, fnD "is_in" s_is_in, fnD "may_ahead" s_may_ahead, fnD "ends_from" s_ends_from, fnD "least_ahead" s_least_ahead, fnD "_law_draws" s__law_draws, fnD "_law_next" s__law_next, fnD "_law_pick" s__law_pick, fnD "_law_says" s__law_says, fnD "_law_same" s__law_same, fnD "_law_frame" s__law_frame, fnD "_law_states" s__law_states, fnD "_law_expr" s__law_expr, fnD "_law_cond" s__law_cond, fnD "_law_some" s__law_some, fnD "_law_pairs" s__law_pairs, fnD "_law_spec" s__law_spec, fnD "_law_count" s__law_count, fnD "_law_command" s__law_command, fnD "_law_worth" s__law_worth, fnD "_law_holds" s__law_holds, fnD "_law_lot" s__law_lot, fnD "_law_both" s__law_both, fnD "law" s_law]
abbrev faH : List He.Fa := [.glo "is_integer", .keep "is_integer", .glo "names_of", .keep "names_of", .glo "place_of", .keep "place_of", .glo "states_of", .keep "states_of", .glo "is_state", .keep "is_state", .glo "with_name", .keep "with_name", .glo "with_values", .keep "with_values", .glo "worth", .keep "worth", .glo "holds", .keep "holds", .glo "inner_frame", .keep "inner_frame", .glo "meant", .keep "meant", .glo "values_set", .keep "values_set", .glo "set_end", .keep "set_end", .glo "is_kept", .keep "is_kept", .glo "spec_ends", .keep "spec_ends", .glo "both_ends", .keep "both_ends", .glo "ends_by", .keep "ends_by", .glo "if_meant", .keep "if_meant", .glo "do_meant", .keep "do_meant", .glo "local_meant", .keep "local_meant", .glo "ahead_of", .keep "ahead_of", .glo "is_in", .keep "is_in", .glo "may_ahead", .keep "may_ahead", .glo "ends_from", .keep "ends_from", .glo "least_ahead", .keep "least_ahead", .glo "_law_draws", .keep "_law_draws", .glo "_law_next", .keep "_law_next", .glo "_law_pick", .keep "_law_pick", .glo "_law_says", .keep "_law_says", .glo "_law_same", .keep "_law_same", .glo "_law_frame", .keep "_law_frame", .glo "_law_states", .keep "_law_states", .glo "_law_expr", .keep "_law_expr", .glo "_law_cond", .keep "_law_cond", .glo "_law_some", .keep "_law_some", .glo "_law_pairs", .keep "_law_pairs", .glo "_law_spec", .keep "_law_spec", .glo "_law_count", .keep "_law_count", .glo "_law_command", .keep "_law_command", .glo "_law_worth", .keep "_law_worth", .glo "_law_holds", .keep "_law_holds", .glo "_law_lot", .keep "_law_lot", .glo "_law_both", .keep "_law_both", .glo "law", .keep "law", .glo "BOTH"]
abbrev faG : List He.Fa := [.free "len", .free "tuple", .free "list", .free "dict", .free "set", .free "sorted", .free "all", .free "any", .free "min", .free "max", .free "abs", .free "int", .free "bool", .free "str", .free "range", .free "zip", .free "enumerate", .free "isinstance", .free "sum"]
abbrev csH : List (Str × List Str) := [("BOTH", ["and", "or"])]
abbrev rowH : PySem.W.OpenRow := PySem.W.OpenLaw.row PySem.Challenge.rw_closersteps_k49_whole_lots_ahead_put_tog
def loose0 : List PySem.Str := ["is_integer", "names_of", "place_of", "states_of", "is_state", "with_name", "with_values", "worth", "holds", "inner_frame", "meant", "values_set", "set_end", "is_kept", "spec_ends", "both_ends", "ends_by", "if_meant", "do_meant", "local_meant", "ahead_of", "is_in", "may_ahead", "ends_from", "least_ahead", "_law_draws", "_law_next", "_law_pick", "_law_says", "_law_same"]
def loose1 : List PySem.Str := ["_law_frame", "_law_states", "_law_expr", "_law_cond", "_law_some", "_law_pairs", "_law_spec", "_law_count", "_law_command", "_law_worth", "_law_holds", "_law_lot", "_law_both", "__name__", "BOTH"]
def looseH : List PySem.Str := loose0 ++ loose1
abbrev viewH : Program := PySem.W.view rowH.prog [51]
abbrev lawIx : Nat := 51
/-- a tuple of texts at the top -/
def strsB : List Str → List Value → Bool
  | [], [] => true
  | z :: zs, .str x _ :: vs => decide (x = z) && strsB zs vs
  | _, _ => false
theorem strsB_ok : ∀ {zs : List Str} {vs : List Value}, strsB zs vs = true → Vals (zs.map V.str) vs
  | [], [], _ => .nil
  | z :: zs, .str x t :: vs, h => by
    obtain ⟨h1, h2⟩ := He.ba h
    have e : x = z := of_decide_eq_true h1
    subst e
    exact .cons ⟨t, rfl⟩ (strsB_ok h2)
def tupB (K : PySem.W.Frag) (c : Str × List Str) : Bool := match K.lookup (He.ga K c.1) with
  | some ⟨.type "tuple", _, .seq its _, _⟩ => decide (its.size ≤ sizeLine) && strsB c.2 its.toList
  | _ => false
theorem tupB_ok {K : PySem.W.Frag} {c : Str × List Str} (h : tupB K c = true) (H : Hp) : SqT K H (He.ga K c.1) (c.2.map V.str) := by
  unfold tupB at h
  split at h
  · rename_i od its n osl e
    obtain ⟨h1, h2⟩ := He.ba h
    exact .inr ⟨_, its, n, e, rfl, rfl, of_decide_eq_true h1, strsB_ok h2⟩
  · cases h
abbrev AlJ : Type := He.Al × Bool
def obsJ (g : Addr → Option Obj) : AlJ := (He.obsE faH fnH (He.frG g (He.asG g 4)), (faG.all fun f => f.ok (He.frG g (He.asG g 4))) && csH.all fun c => tupB (He.frG g (He.asG g 4)) c)
def hkH : PySem.W.Hook where
  α := AlJ
  obs := fun s => obsJ s.heap.get?
  val := fun _ => (He.valE fnH, true)
  says := fun _ h => ∃ K : PySem.W.Frag, K.In h ∧ He.SaysE faH fnH K ∧ ((faG.all fun f => f.ok K) && csH.all fun c => tupB K c) = true
  of := fun _ _ e => ⟨_, He.frG_in, congrArg Prod.fst e, congrArg Prod.snd e⟩
  keeps := fun _ _ _ ⟨K, hK, c⟩ k => ⟨K, PySem.W.Frag.In.keeps hK k, c⟩
def obH (s : PySem.W.SharedT) : AlJ := obsJ (HandSHeadRun.getT s)
theorem obH_eq (s : PySem.W.SharedT) : obH s = hkH.obs s.abs := by
  have e : HandSHeadRun.getT s = s.abs.heap.get? := funext fun a => HandSHeadRun.getT_eq s a
  show obsJ (HandSHeadRun.getT s) = obsJ s.abs.heap.get?
  rw [e]
theorem runH (w : World) : HandSHeadRun.RunEq rowH viewH hkH obH 3000 looseH w := by
  intro os
  kernel_rfl
end J
end

section
set_option Elab.async false
set_option maxHeartbeats 0
set_option linter.all false
set_option maxRecDepth 100000
/-! all together, and the end -/
namespace J
open PySem PySem.Spec PyProof.Rows L2
theorem fun_bindsA {K : PySem.W.Frag} {x qual : Str} {st : Stmt} {f : Addr} {fd : FuncData} {ps : List Str} (F : Fun K x qual st f fd)
    (h : ∀ (kV doc pm : Value) (an : Option Addr) (cdv ct : Value) (us : List Value), us.length = ps.length → bindArgs (PySem.W.fnOf x qual (defArgs st) (defBody st) (defScope st) .none kV doc pm an cdv ct) ⟨us, []⟩ = pure (ps.zip us)) (s : Shared) (us : List Value) (hl : us.length = ps.length) : BindsTo s fd ⟨us, []⟩ (ps.zip us) := by
  obtain ⟨oc, od, kV, doc, pm, an, cdv, ct, osl, rfl, lk, hcd⟩ := F.ex
  exact .of_eq (h kV doc pm an cdv ct us hl)
theorem facts49 {P : Program} {w : World} {K : PySem.W.Frag} {h : Heap} {mg : Str → Option Value} (KX : K.In h) (G : h.Ns mainGlobals mg) (c : He.SaysE faH fnH K) (c2 : ((faG.all fun f => f.ok K) && csH.all fun c => tupB K c) = true) :
    ∃ f fd, mg "law" = some (.ref f) ∧ (∀ (s : Shared) (u : Value), BindsTo s fd ⟨[u], []⟩ [("script", u)]) ∧ ∀ base : Heap, FnOk P w K mg base CX0 18 f fd ["script"] (spD K RLaw) := by
  obtain ⟨c3, c4⟩ := He.ba c2
  have fr : ∀ (j : Nat) (x : Str), faG[j]? = some (.free x) → mg x = none := fun j x e => He.free_ok KX G (List.all_eq_true.mp c3 _ (List.mem_of_getElem? e))
  have B : Bi mg := ⟨fr 0 _ rfl, fr 1 _ rfl, fr 2 _ rfl, fr 3 _ rfl, fr 4 _ rfl, fr 5 _ rfl, fr 6 _ rfl, fr 7 _ rfl, fr 8 _ rfl, fr 9 _ rfl, fr 10 _ rfl, fr 11 _ rfl, fr 12 _ rfl, fr 13 _ rfl, fr 14 _ rfl, fr 15 _ rfl, fr 16 _ rfl, fr 17 _ rfl, fr 18 _ rfl⟩
  have at_ : ∀ (i : Nat) (x : Str) (st : Stmt), fnH[i]? = some (fnD x st) → faH[2 * i]? = some (.glo x) → faH[2 * i + 1]? = some (.keep x) → ∃ f fd, Fun K x x st f fd ∧ mg x = some (.ref f) := fun i x st e1 e2 e3 => by
    obtain ⟨oc, od, osl, kV, doc, pm, an, cdv, ct, l, cd⟩ := c.def_ i e1
    exact ⟨_, _, fun_mk l cd (He.keep_ok (c.fact _ e3)), He.glo_ok KX G (c.fact _ e2)⟩
  obtain ⟨f_is_integer, d_is_integer, F_is_integer, m_is_integer⟩ := at_ 0 "is_integer" s_is_integer rfl rfl rfl
  obtain ⟨f_names_of, d_names_of, F_names_of, m_names_of⟩ := at_ 1 "names_of" s_names_of rfl rfl rfl
  obtain ⟨f_place_of, d_place_of, F_place_of, m_place_of⟩ := at_ 2 "place_of" s_place_of rfl rfl rfl
  obtain ⟨f_states_of, d_states_of, F_states_of, m_states_of⟩ := at_ 3 "states_of" s_states_of rfl rfl rfl
  obtain ⟨f_is_state, d_is_state, F_is_state, m_is_state⟩ := at_ 4 "is_state" s_is_state rfl rfl rfl
  obtain ⟨f_with_name, d_with_name, F_with_name, m_with_name⟩ := at_ 5 "with_name" s_with_name rfl rfl rfl
  obtain ⟨f_with_values, d_with_values, F_with_values, m_with_values⟩ := at_ 6 "with_values" s_with_values rfl rfl rfl
  obtain ⟨f_worth, d_worth, F_worth, m_worth⟩ := at_ 7 "worth" s_worth rfl rfl rfl
  obtain ⟨f_holds, d_holds, F_holds, m_holds⟩ := at_ 8 "holds" s_holds rfl rfl rfl
  obtain ⟨f_inner_frame, d_inner_frame, F_inner_frame, m_inner_frame⟩ := at_ 9 "inner_frame" s_inner_frame rfl rfl rfl
  obtain ⟨f_meant, d_meant, F_meant, m_meant⟩ := at_ 10 "meant" s_meant rfl rfl rfl
  obtain ⟨f_values_set, d_values_set, F_values_set, m_values_set⟩ := at_ 11 "values_set" s_values_set rfl rfl rfl
  obtain ⟨f_set_end, d_set_end, F_set_end, m_set_end⟩ := at_ 12 "set_end" s_set_end rfl rfl rfl
  obtain ⟨f_is_kept, d_is_kept, F_is_kept, m_is_kept⟩ := at_ 13 "is_kept" s_is_kept rfl rfl rfl
  obtain ⟨f_spec_ends, d_spec_ends, F_spec_ends, m_spec_ends⟩ := at_ 14 "spec_ends" s_spec_ends rfl rfl rfl
  obtain ⟨f_both_ends, d_both_ends, F_both_ends, m_both_ends⟩ := at_ 15 "both_ends" s_both_ends rfl rfl rfl
  obtain ⟨f_ends_by, d_ends_by, F_ends_by, m_ends_by⟩ := at_ 16 "ends_by" s_ends_by rfl rfl rfl
  obtain ⟨f_if_meant, d_if_meant, F_if_meant, m_if_meant⟩ := at_ 17 "if_meant" s_if_meant rfl rfl rfl
  obtain ⟨f_do_meant, d_do_meant, F_do_meant, m_do_meant⟩ := at_ 18 "do_meant" s_do_meant rfl rfl rfl
  obtain ⟨f_local_meant, d_local_meant, F_local_meant, m_local_meant⟩ := at_ 19 "local_meant" s_local_meant rfl rfl rfl
  obtain ⟨f_ahead_of, d_ahead_of, F_ahead_of, m_ahead_of⟩ := at_ 20 "ahead_of" s_ahead_of rfl rfl rfl
  obtain ⟨f_is_in, d_is_in, F_is_in, m_is_in⟩ := at_ 21 "is_in" s_is_in rfl rfl rfl
  obtain ⟨f_may_ahead, d_may_ahead, F_may_ahead, m_may_ahead⟩ := at_ 22 "may_ahead" s_may_ahead rfl rfl rfl
  obtain ⟨f_ends_from, d_ends_from, F_ends_from, m_ends_from⟩ := at_ 23 "ends_from" s_ends_from rfl rfl rfl
  obtain ⟨f_least_ahead, d_least_ahead, F_least_ahead, m_least_ahead⟩ := at_ 24 "least_ahead" s_least_ahead rfl rfl rfl
  obtain ⟨f__law_draws, d__law_draws, F__law_draws, m__law_draws⟩ := at_ 25 "_law_draws" s__law_draws rfl rfl rfl
  obtain ⟨f__law_next, d__law_next, F__law_next, m__law_next⟩ := at_ 26 "_law_next" s__law_next rfl rfl rfl
  obtain ⟨f__law_pick, d__law_pick, F__law_pick, m__law_pick⟩ := at_ 27 "_law_pick" s__law_pick rfl rfl rfl
  obtain ⟨f__law_says, d__law_says, F__law_says, m__law_says⟩ := at_ 28 "_law_says" s__law_says rfl rfl rfl
  obtain ⟨f__law_same, d__law_same, F__law_same, m__law_same⟩ := at_ 29 "_law_same" s__law_same rfl rfl rfl
  obtain ⟨f__law_frame, d__law_frame, F__law_frame, m__law_frame⟩ := at_ 30 "_law_frame" s__law_frame rfl rfl rfl
  obtain ⟨f__law_states, d__law_states, F__law_states, m__law_states⟩ := at_ 31 "_law_states" s__law_states rfl rfl rfl
  obtain ⟨f__law_expr, d__law_expr, F__law_expr, m__law_expr⟩ := at_ 32 "_law_expr" s__law_expr rfl rfl rfl
  obtain ⟨f__law_cond, d__law_cond, F__law_cond, m__law_cond⟩ := at_ 33 "_law_cond" s__law_cond rfl rfl rfl
  obtain ⟨f__law_some, d__law_some, F__law_some, m__law_some⟩ := at_ 34 "_law_some" s__law_some rfl rfl rfl
  obtain ⟨f__law_pairs, d__law_pairs, F__law_pairs, m__law_pairs⟩ := at_ 35 "_law_pairs" s__law_pairs rfl rfl rfl
  obtain ⟨f__law_spec, d__law_spec, F__law_spec, m__law_spec⟩ := at_ 36 "_law_spec" s__law_spec rfl rfl rfl
  obtain ⟨f__law_count, d__law_count, F__law_count, m__law_count⟩ := at_ 37 "_law_count" s__law_count rfl rfl rfl
  obtain ⟨f__law_command, d__law_command, F__law_command, m__law_command⟩ := at_ 38 "_law_command" s__law_command rfl rfl rfl
  obtain ⟨f__law_worth, d__law_worth, F__law_worth, m__law_worth⟩ := at_ 39 "_law_worth" s__law_worth rfl rfl rfl
  obtain ⟨f__law_holds, d__law_holds, F__law_holds, m__law_holds⟩ := at_ 40 "_law_holds" s__law_holds rfl rfl rfl
  obtain ⟨f__law_lot, d__law_lot, F__law_lot, m__law_lot⟩ := at_ 41 "_law_lot" s__law_lot rfl rfl rfl
  obtain ⟨f__law_both, d__law_both, F__law_both, m__law_both⟩ := at_ 42 "_law_both" s__law_both rfl rfl rfl
  obtain ⟨f_law, d_law, F_law, m_law⟩ := at_ 43 "law" s_law rfl rfl rfl
  have hb : Both K mg := ⟨He.ga K "BOTH", [.str "and", .str "or"], He.glo_ok KX G (c.fact 88 rfl), fun H => tupB_ok (List.all_eq_true.mp c4 ("BOTH", ["and", "or"]) List.mem_cons_self) H, fun H => .cons (.str _) (.cons (.str _) .nil)⟩
  refine ⟨f_law, d_law, m_law, fun s u => fun_bindsA (ps := ["script"]) F_law (fun _ _ _ _ _ _ us hl => match us, hl with | [_], _ => rfl) s [u] rfl, fun base => ?_⟩
  have int := has_is_integer (P := P) (w := w) (base := base) F_is_integer m_is_integer B
  have names := has_names_of (P := P) (w := w) (base := base) F_names_of m_names_of B
  have place := has_place_of F_place_of m_place_of names
  have states := has_states_of (P := P) (w := w) (base := base) F_states_of m_states_of B
  have isState := has_is_state F_is_state m_is_state B int
  have withName := has_with_name (P := P) (w := w) (base := base) F_with_name m_with_name B
  have withValues := has_with_values (P := P) (w := w) (base := base) F_with_values m_with_values B
  have worth := has_worth F_worth m_worth B place
  have holds := has_holds F_holds m_holds hb worth
  have inner := has_inner_frame F_inner_frame m_inner_frame withName
  have both := has_both_ends (P := P) (w := w) (base := base) F_both_ends m_both_ends B
  have endsBy := has_ends_by F_ends_by m_ends_by both
  have valuesSet := has_values_set F_values_set m_values_set B worth 3
  have setEnd := has_set_end F_set_end m_set_end 3 valuesSet withValues isState
  have kept := has_is_kept (P := P) (w := w) (base := base) F_is_kept m_is_kept B
  have spec := has_spec_ends F_spec_ends m_spec_ends B 3 (holds 3) kept
  have ifM := has_if_meant F_if_meant m_if_meant B 3 states (holds 3) both
  have doM := has_do_meant F_do_meant m_do_meant B 3 states (holds 3) both
  have meant := has_meant F_meant m_meant F_local_meant m_local_meant B 3 ⟨states, holds 3, setEnd, spec, both, endsBy, ifM, doM⟩ inner place 3
  have isIn := has_is_in (P := P) (w := w) (base := base) F_is_in m_is_in B
  have ahead := has_ahead_of F_ahead_of m_ahead_of B 3 3 states meant isIn
  have may := has_may_ahead F_may_ahead m_may_ahead B 3 3 meant
  have from' := has_ends_from F_ends_from m_ends_from 3 3 meant both
  have least := has_least_ahead F_least_ahead m_least_ahead B 3 3 states ahead
  have next := has_law_next (P := P) (w := w) (base := base) F__law_next m__law_next B
  have pick := has_law_pick F__law_pick m__law_pick B next
  have gnext := gen_next next
  have gpick := gen_pick pick
  have expr := gen_expr (has_law_expr F__law_expr m__law_expr B next pick)
  have cond := gen_cond F__law_cond m__law_cond B gnext expr
  have some' := gen_some (has_law_some F__law_some m__law_some B next)
  have pairs := gen_pairs F__law_pairs m__law_pairs B some' expr
  have gspec := gen_spec F__law_spec m__law_spec B gnext cond some'
  have count := gen_count F__law_count m__law_count B gnext gpick
  have cmd := gen_cmd F__law_command m__law_command B gnext gpick cond pairs gspec count
  exact fn_law F_law B ⟨has_law_draws F__law_draws m__law_draws B, gen_frame (has_law_frame F__law_frame m__law_frame B next), has_law_states F__law_states m__law_states B, cmd, gen_lot (has_law_lot F__law_lot m__law_lot B next), meant, ahead, may, least, from', has_law_both F__law_both m__law_both B, has_law_same F__law_same m__law_same B⟩
end J
open PySem PySem.W PySem.Calls PyProof.Rows
set_option maxRecDepth 100000 in
set_option maxHeartbeats 0 in
theorem PySem.Challenge.cw_closersteps_k49_whole_lots_ahead_put_tog_holds : PySem.Challenge.rw_closersteps_k49_whole_lots_ahead_put_tog.Holds := by
  w_on; o_law
  refine HandSHeadRun.head_any (r := J.rowH) (q := J.viewH) (H := J.hkH) (ob := J.obH) (M := 3000) (loose := J.looseH) (d := HandSHeadRun.topDef J.rowH.prog J.lawIx) (kwd := []) J.obH_eq
    (by kernel_rfl) (fun s => by kernel_rfl) J.runH (by kernel_rfl) (by kernel_rfl) (by kernel_rfl) (by rfl) (by first | assumption | decide +kernel) (by decide +kernel) ⟨rfl, rfl, rfl, rfl, rfl, by decide +kernel⟩ ?hw ?hc
  case hw => w_witness2
  case hc =>
    refine L2.walk_ofE (l := PySem.Challenge.rw_closersteps_k49_whole_lots_ahead_put_tog) (n := 63) (k := 18) (x := "script") (CX := L2.CX0) rfl (by decide) (by kernel_rfl) ⟨rfl, by decide, by decide⟩ ?F (fun _ _ _ _ z => z)
    intro w mg fa h Y G hmg0
    obtain ⟨K, KX, c, c2⟩ := Y
    have hmg : mg ("law" : PySem.Str) = some (.ref fa) := by
      have e : (HandSHeadRun.topDef J.rowH.prog J.lawIx).name = ("law" : PySem.Str) := by kernel_rfl
      rw [← e]
      exact hmg0
    obtain ⟨f, fd, hf, hb, hF⟩ := J.facts49 (P := (PySem.Challenge.rw_closersteps_k49_whole_lots_ahead_put_tog).prog) (w := w) KX G c c2
    rw [hmg] at hf
    cases hf
    exact ⟨K, fd, J.spD K J.RLaw, KX, hb, fun H a ns hl _ hS => J.law_sp H a ns hl hS, fun base _ _ => hF base⟩
end
